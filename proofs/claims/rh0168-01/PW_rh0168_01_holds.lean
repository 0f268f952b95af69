import PyProof.Rows.All
import Wide.All
import OpenK.AllK
import Wide.FinOn
import PySem.Challenge.RW_rh0168_01
set_option Elab.async false
set_option linter.all false
set_option maxRecDepth 1000000
set_option bootstrap.genMatcherCode false
set_option genSizeOf false
set_option genInjectivity false
section
namespace Mp
set_option genInjectivity true in
inductive V where
 | none | bool (b : Bool) | int (i : Int) | bytes (l : List Nat) | str (l : List Nat)
 | ref (n : Nat) | fn (k : Nat) | cls (k : Nat) | ty (k : Nat) | blt (k : Nat)
 deriving DecidableEq,Inhabited
inductive O where
 | list (xs : List V) | tup (xs : List V) | inst (c d : Nat) | attrs (fs : List (Nat × V)) | cell (v : Option V)
 | clo (k : Nat) (cs : List Nat) | exc (c : Nat) (d : Option Nat) (up : Bool) | frz (xs : List V)
 deriving Inhabited
inductive Bop where | add | sub | mul | div | mod
 deriving Inhabited
inductive Cop where | lt | le | gt | ge | eq | ne | is | isnt
 deriving Inhabited
inductive E where
 | oth
 | cst (v : V) | loc (x : Nat) | cel (x : Nat) | glo (v : V)
 | not (a : E) | and (as : List E) | or (as : List E) | ite (c a b : E)
 | bin (o : Bop) (a b : E) | cmp (o : Cop) (a b : E) | neg (a : E)
 | call (f : E) (as : List E) | meth (o : E) (m : Nat) (as : List E) | attr (o : E) (m : Nat)
 | lst (as : List E) | tup (as : List E) | dic
 | sub (o i : E) | slc (o : E) (lo hi : Option E)
 | lam (k : Nat) (cs : List Nat)
 | comp (elt : E) (x : Nat) (nl : Nat) (cs : List Nat) (it : E) (cond : Option E)
 deriving Inhabited
inductive T where
 | loc (x : Nat) | cel (x : Nat) | attr (o : E) (m : Nat) | sub (o i : E) | oth
 deriving Inhabited
set_option genCtorIdx false in
inductive S where
 | oth
 | ex (e : E) | asg (t : T) (e : E) | asgT (ts : List T) (e : E) | augL (x : Nat) (o : Bop) (e : E) | augA (b : E) (m : Nat) (o : Bop) (e : E)
 | ite (c : E) (a b : List S) | wh (c : E) (b : List S) | fo (ts : List T) (it : E) (b : List S)
 | ret (e : E) | raise (e : E) | tryx (e : E) (c : Nat) (x : Nat) (h : E) | brk | pass
 | defn (t : T) (k : Nat) (cs : List Nat)
 deriving Inhabited
structure Fn where
 pars : List (Bool × Nat)
 nloc : Nat
 ncell : Nat
 dfl : List V
 body : List S ⊕ E
noncomputable instance : Inhabited Fn:=⟨⟨[],0,0,[],.inr .oth⟩⟩
inductive Res (α : Type) where
 | stuck | ok (a : α) (H : List O) | err (e : Nat) (H : List O)
 deriving Inhabited
noncomputable abbrev M (α : Type):=List O→Res α
noncomputable def M.pure {α} (a : α) : M α:=fun H=>.ok a H
noncomputable def M.bind {α β} (m : M α) (f : α→M β) : M β:=fun H=>match m H with
 | .stuck=>.stuck
 | .ok a H'=>f a H'
 | .err e H'=>.err e H'
noncomputable instance : Monad M where
 pure:=M.pure
 bind:=M.bind
noncomputable def stuck {α} : M α:=fun _=>.stuck
noncomputable def noErr {α} (m : M α) : M α:=fun H=>match m H with
 | .ok a H'=>.ok a H'
 | _=>.stuck
noncomputable def getO (n : Nat) : M O:=fun H=>match H[n]? with | some o=>.ok o H | none=>.stuck
noncomputable def setO (n : Nat) (o : O) : M Unit:=fun H=>.ok () (H.set n o)
noncomputable def new (o : O) : M Nat:=fun H=>.ok H.length (H ++ [o])
noncomputable def opt {α} : Option α→M α | some a=>pure a | none=>stuck
set_option genCtorIdx false in
inductive Fl where | nxt | brk | ret (v : V)
 deriving Inhabited
inductive Src where | rng (i : Int) (n : Nat) | seq (a : Nat) (i : Nat) | enm (a : Nat) (i : Nat)
 deriving Inhabited
noncomputable abbrev Lo:=List (Option V)
structure Ev where
 e : List Nat→Lo→E→M V
 es : List Nat→Lo→List E→M (List V)
 o : List Nat→Lo→Option E→M (Option V)
 t : List Nat→Lo→E→M Bool
 ea : List Nat→Lo→List E→M V
 eo : List Nat→Lo→List E→M V
 ta : List Nat→Lo→List E→M Bool
 to : List Nat→Lo→List E→M Bool
 s : List Nat→Lo→S→M (Fl × Lo)
 ss : List Nat→Lo→List S→M (Fl × Lo)
 fn : Nat→List Nat→List V→M V
 wh : List Nat→Lo→E→List S→M (Fl × Lo)
 fo : List Nat→Lo→List T→Src→List S→M (Fl × Lo)
 co : List Nat→Lo→E→Option E→Nat→Src→Nat→M Unit
noncomputable def truth : V→M Bool | .bool b=>pure b | _=>stuck
noncomputable def insertI (x : Int) : List Int→List Int
 | []=>[x]
 | y :: r=>if x < y then x :: y :: r else y :: insertI x r
noncomputable def sortI : List Int→List Int
 | []=>[]
 | x :: r=>insertI x (sortI r)
noncomputable def intsV : List V→Option (List Int)
 | []=>some []
 | .int i :: r=>(intsV r).map (i :: ·)
 | _ :: _=>none
noncomputable def flatB : List V→Option (List (List Nat))
 | []=>some []
 | .bytes b :: r=>(flatB r).map (b :: ·)
 | _ :: _=>none
noncomputable def joinB (s : List Nat) : List (List Nat)→List Nat
 | []=>[]
 | [x]=>x
 | x :: r=>x ++ s ++ joinB s r
noncomputable def splitB (c : Nat) : List Nat→List (List Nat)
 | []=>[[]]
 | x :: r=>if Nat.beq x c then [] :: splitB c r else match splitB c r with
  | []=>[[x]]
  | y :: z=>(x :: y) :: z
noncomputable def eqLL (xs ys : List V) : Option Bool:=match intsV xs,intsV ys with
 | some a,some b=>some (decide (a = b))
 | _,_=>if Nat.beq xs.length ys.length then match flatB xs,flatB ys with
  | some a,some b=>some (decide (a = b))
  | _,_=>none
  else some false
noncomputable def eqM (a b : V) : M Bool:=match a,b with
 | .int a,.int b=>pure (decide (a = b))
 | .bytes a,.bytes b=>pure (decide (a = b))
 | .ref n,.ref m=>do
  match ← getO n,← getO m with
  | .list xs,.list ys=>opt (eqLL xs ys)
  | _,_=>stuck
 | .ref n,.bytes _=>do match ← getO n with
  | .list _=>pure false
  | _=>stuck
 | _,_=>stuck
noncomputable def neM (a b : V) : M Bool:=match a,b with
 | .int a,.int b=>pure (!decide (a = b))
 | .bytes a,.bytes b=>pure (!decide (a = b))
 | .ref n,.ref m=>do
  match ← getO n,← getO m with
  | .list xs,.list ys=>do return !(← opt (eqLL xs ys))
  | _,_=>stuck
 | _,_=>stuck
noncomputable def augM (o : Bop) (a b : V) : M V:=match o,a,b with
 | .add,.int a,.int b=>pure (.int (a + b))
 | .sub,.int a,.int b=>pure (.int (a - b))
 | _,_,_=>stuck
noncomputable def isN : V→Option Bool
 | .none=>some true
 | .blt _=>none
 | _=>some false
noncomputable def cmpM (o : Cop) (a b : V) : M V:=match o with
 | .eq=>do return .bool (← eqM a b)
 | .ne=>do return .bool (← neM a b)
 | .lt=>match a,b with | .int a,.int b=>pure (.bool (decide (a < b))) | _,_=>stuck
 | .le=>match a,b with | .int a,.int b=>pure (.bool (decide (a ≤ b))) | _,_=>stuck
 | .gt=>match a,b with | .int a,.int b=>pure (.bool (decide (b < a))) | _,_=>stuck
 | .ge=>match a,b with | .int a,.int b=>pure (.bool (decide (b ≤ a))) | _,_=>stuck
 | .is=>match b with | .none=>opt (isN a) >>= fun k=>pure (.bool k) | _=>stuck
 | .isnt=>match b with | .none=>opt (isN a) >>= fun k=>pure (.bool (!k)) | _=>stuck
noncomputable def binM (o : Bop) (a b : V) : M V:=match o,a,b with
 | .add,.int a,.int b=>pure (.int (a + b))
 | .sub,.int a,.int b=>pure (.int (a - b))
 | .mul,.int a,.int b=>if a.natAbs < 1073741824∧b.natAbs < 1073741824 then pure (.int (a * b)) else stuck
 | .div,.int a,.int b=>if b = 2 then pure (.int (a.fdiv b)) else stuck
 | .mod,.int a,.int b=>if 0 < b then pure (.int (a.fmod b)) else stuck
 | .add,.bytes a,.bytes b=>if a.length + b.length ≤ 10000 then pure (.bytes (a ++ b)) else stuck
 | .add,.ref n,.ref m=>do
  match ← getO n,← getO m with
  | .list xs,.list ys=>if xs.length + ys.length ≤ 10000 then do return .ref (← new (.list (xs ++ ys))) else stuck
  | _,_=>stuck
 | .mul,.ref n,.int k=>do
  match ← getO n with
  | .list xs=>if k.natAbs < 1000∧xs.length ≤ 10 then do return .ref (← new (.list (List.replicate k.toNat xs).flatten)) else stuck
  | _=>stuck
 | _,_,_=>stuck
noncomputable def isPr (k : Nat) (t : V) : Option Bool:=match t with
 | .ty 0=>some (Nat.beq k 1 || Nat.beq k 2)
 | .ty 1=>some (Nat.beq k 1)
 | .ty 2=>some (Nat.beq k 3)
 | .cls c=>if Nat.blt c 6 then some false else none
 | _=>none
noncomputable def isOf (d : Nat) (t : V) : Option Bool:=match t with
 | .ty 0=>some false
 | .ty 1=>some false
 | .ty 2=>some false
 | .cls c=>if Nat.blt c 6 then some (Nat.beq c d) else none
 | _=>none
noncomputable def isTyM (v t : V) : M Bool:=match v with
 | .none=>opt (isPr 0 t)
 | .bool _=>opt (isPr 1 t)
 | .int _=>opt (isPr 2 t)
 | .bytes _=>opt (isPr 3 t)
 | .ref n=>do match ← getO n with
  | .inst d _=>if Nat.blt d 6 && !Nat.beq d 1 then opt (isOf d t) else stuck
  | _=>stuck
 | _=>stuck
noncomputable def bltM (k : Nat) (as : List V) : M V:=match k,as with
 | 0,[.bytes l]=>pure (.int l.length)
 | 0,[.ref n]=>do match ← getO n with
  | .list xs=>pure (.int xs.length)
  | _=>stuck
 | 1,[v,t]=>do return .bool (← isTyM v t)
 | 2,[.int i]=>pure (.int i.natAbs)
 | 4,[.int a,.int b]=>pure (.int (if b < a then b else a))
 | 5,[.ref n]=>do match ← getO n with
  | .list xs=>if xs.length < 64 then (do
   let is ← opt (intsV xs)
   return .ref (← new (.list ((sortI is).map V.int)))) else stuck
  | _=>stuck
 | _,_=>stuck
noncomputable def tyM (k : Nat) (as : List V) : M V:=match k,as with
 | 5,[.ref n]=>do match ← getO n with
  | .list xs=>do return .ref (← new (.list xs))
  | _=>stuck
 | _,_=>stuck
noncomputable def lookA (m : Nat) : List (Nat × V)→Option V
 | []=>none
 | p :: r=>if Nat.beq p.1 m then some p.2 else lookA m r
noncomputable def putA (m : Nat) (v : V) : List (Nat × V)→List (Nat × V)
 | []=>[(m,v)]
 | p :: r=>if Nat.beq p.1 m then (p.1,v) :: r else p :: putA m v r
noncomputable def attrsOf (d : Nat) : M (List (Nat × V)):=do match ← getO d with
 | .attrs fs=>pure fs
 | _=>stuck
noncomputable def okA (meths : Nat→Nat→Option Nat) (c m : Nat) : Bool:=Nat.blt c 6 && Nat.blt m 60 && (meths c m).isNone
noncomputable def getA (meths : Nat→Nat→Option Nat) (v : V) (m : Nat) : M V:=match v with
 | .ref n=>do match ← getO n with
  | .inst c d=>if okA meths c m && !Nat.beq c 1 then do opt (lookA m (← attrsOf d)) else stuck
  | .exc c (some d) _=>if okA meths c m && Nat.beq c 1 then do opt (lookA m (← attrsOf d)) else stuck
  | _=>stuck
 | _=>stuck
noncomputable def setA (meths : Nat→Nat→Option Nat) (v : V) (m : Nat) (x : V) : M Unit:=match v with
 | .ref n=>do match ← getO n with
  | .inst c d=>if okA meths c m && !Nat.beq c 1 then (do
    let fs ← attrsOf d
    if fs.length < 100 then setO d (.attrs (putA m x fs)) else stuck) else stuck
  | .exc c (some d) _=>if okA meths c m && Nat.beq c 1 then (do
    let fs ← attrsOf d
    if fs.length < 100 then setO d (.attrs (putA m x fs)) else stuck) else stuck
  | .exc c none u=>if okA meths c m && Nat.beq c 1 then (do
    let d ← new (.attrs [(m,x)])
    setO n (.exc c (some d) u)) else stuck
  | _=>stuck
 | _=>stuck
noncomputable def idx (i : Int) : Option Nat:=match i with | .ofNat n=>some n | .negSucc _=>none
noncomputable def getI (o i : V) : M V:=match o,i with
 | .ref n,.int i=>do match ← getO n with
  | .list xs=>do opt (xs[← opt (idx i)]?)
  | .tup xs=>do opt (xs[← opt (idx i)]?)
  | _=>stuck
 | .bytes l,.int i=>do return .int (← opt (l[← opt (idx i)]?))
 | _,_=>stuck
noncomputable def setI (o i x : V) : M Unit:=match o,i with
 | .ref n,.int i=>do match ← getO n with
  | .list xs=>do
   let k ← opt (idx i)
   if k < xs.length then setO n (.list (xs.set k x)) else stuck
  | _=>stuck
 | _,_=>stuck
noncomputable def cut {α} (xs : List α) (lo hi : Option Nat) : List α:=(xs.drop (lo.getD 0)).take ((hi.getD xs.length) - lo.getD 0)
noncomputable def bnd : Option V→Option (Option Nat)
 | none=>some none
 | some (.int i)=>(idx i).map some
 | _=>none
noncomputable def slice (o : V) (lo hi : Option V) : M V:=do
 let lo ← opt (bnd lo)
 let hi ← opt (bnd hi)
 match o with
 | .bytes l=>pure (.bytes (cut l lo hi))
 | .ref n=>do match ← getO n with
  | .list xs=>do return .ref (← new (.list (cut xs lo hi)))
  | .frz xs=>do return .ref (← new (.list (cut xs lo hi)))
  | _=>stuck
 | _=>stuck
section
variable (fns : Nat→Fn) (meths : Nat→Nat→Option Nat) (inits : Nat→Nat) (isExc isB isC : Nat→Bool)
noncomputable def callV (ih : Ev) (f : V) (as : List V) : M V:=match f with
 | .fn k=>if isB k then ih.fn k [] as else stuck
 | .ref n=>do match ← getO n with
  | .clo k cs=>if isC k then ih.fn k cs as else stuck
  | _=>stuck
 | .cls c=>if Nat.blt c 6 && isB (inits c) then (do
  let x ← (if isExc c then new (.exc c none false) else do
   let d ← new (.attrs [])
   new (.inst c d))
  match ← ih.fn (inits c) [] (.ref x :: as) with
  | .none=>pure (.ref x)
  | _=>stuck) else stuck
 | .blt k=>bltM k as
 | .ty k=>tyM k as
 | _=>stuck
noncomputable def bltMeth (o : V) (m : Nat) (as : List V) : M V:=match m,o,as with
 | 1000,.ref n,[x]=>do match ← getO n with
  | .list xs=>if xs.length < 50000 then (do setO n (.list (xs ++ [x])); return .none) else stuck
  | _=>stuck
 | 1001,.ref n,[]=>do match ← getO n with
  | .list xs=>do match xs.getLast? with
   | some x=>do setO n (.list xs.dropLast); return x
   | none=>stuck
  | _=>stuck
 | 1002,.bytes s,[.ref n]=>do match ← getO n with
  | .list xs=>if xs.length < 4 then (do
    let l ← opt (flatB xs)
    if s.length ≤ 1000∧(l.all fun x=>Nat.ble x.length 1000) = true then pure (.bytes (joinB s l)) else stuck) else stuck
  | _=>stuck
 | 1003,.str s,[.str p]=>if p = [46]∧(s = [116,97,98,108,101,46,115,111,114,116] ∨ s = [112,114,105,110,116]) then do return .ref (← new (.list ((splitB 46 s).map V.str))) else stuck
 | 1004,.str s,[.str p]=>if p = [97,115,99,105,105]∧(s = [116,97,98,108,101] ∨ s = [115,111,114,116] ∨ s = [112,114,105,110,116]) then pure (.bytes s) else stuck
 | _,_,_=>stuck
set_option genCtorIdx false in
inductive Tgt where | own (k : Nat) | val (v : V) | bi
noncomputable def target (o : V) (m : Nat) : M Tgt:=match o with
 | .ref n=>do match ← getO n with
  | .inst c d=>if Nat.blt c 6 && Nat.blt m 60 && !Nat.beq c 1 then (do
   let fs ← attrsOf d
   match meths c m,lookA m fs with
   | some k,none=>if isB k then pure (.own k) else stuck
   | none,some v=>pure (.val v)
   | _,_=>stuck) else stuck
  | .list _=>if Nat.beq m 1000 || Nat.beq m 1001 then pure .bi else stuck
  | _=>stuck
 | .bytes _=>if Nat.beq m 1002 then pure .bi else stuck
 | .str _=>if Nat.beq m 1003 || Nat.beq m 1004 then pure .bi else stuck
 | _=>stuck
noncomputable def nextS (s : Src) : M (Option (List V × Src)):=match s with
 | .rng i n=>match n with
  | 0=>pure none
  | n + 1=>pure (some ([.int i],.rng (i + 1) n))
 | .seq a i=>do match ← getO a with
  | .list xs=>match xs[i]? with
   | some x=>pure (some ([x],.seq a (i + 1)))
   | none=>pure none
  | _=>stuck
 | .enm a i=>do match ← getO a with
  | .list xs=>match xs[i]? with
   | some x=>pure (some ([.int i,x],.enm a (i + 1)))
   | none=>pure none
  | _=>stuck
noncomputable def getL (ρ : Lo) (x : Nat) : M V:=match ρ[x]? with
 | some (some v)=>pure v
 | _=>stuck
noncomputable def getC (cs : List Nat) (x : Nat) : M V:=match cs[x]? with
 | some n=>do match ← getO n with
  | .cell (some v)=>pure v
  | _=>stuck
 | none=>stuck
noncomputable def setC (cs : List Nat) (x : Nat) (v : V) : M Unit:=match cs[x]? with
 | some n=>do match ← getO n with
  | .cell _=>setO n (.cell (some v))
  | _=>stuck
 | none=>stuck
noncomputable def caps (cs : List Nat) : List Nat→Option (List Nat)
 | []=>some []
 | x :: r=>match cs[x]?,caps cs r with
  | some n,some l=>some (n :: l)
  | _,_=>none
noncomputable def src (ih : Ev) (cs : List Nat) (ρ : Lo) (it : E) : M Src:=match it with
 | .call (.glo (.ty 3)) [a]=>do match ← ih.e cs ρ a with
  | .int n=>if n.natAbs < 1000000 then pure (.rng 0 n.toNat) else stuck
  | _=>stuck
 | .call (.glo (.ty 3)) [a,b]=>do match ← ih.es cs ρ [a,b] with
  | [.int i,.int n]=>if i.natAbs < 1000000∧n.natAbs < 1000000 then pure (.rng i (n - i).toNat) else stuck
  | _=>stuck
 | .call (.glo (.ty 4)) [a]=>do match ← ih.e cs ρ a with
  | .ref n=>do match ← getO n with
   | .list _=>pure (.enm n 0)
   | _=>stuck
  | _=>stuck
 | it=>do match ← ih.e cs ρ it with
  | .ref n=>do match ← getO n with
   | .list _=>pure (.seq n 0)
   | _=>stuck
  | _=>stuck
noncomputable def eStep (ih : Ev) (cs : List Nat) (ρ : Lo) : E→M V
 | .oth=>stuck
 | .cst v=>pure v
 | .loc x=>getL ρ x
 | .cel x=>getC cs x
 | .glo v=>pure v
 | .not a=>do return .bool (!(← truth (← ih.e cs ρ a)))
 | .and as=>ih.ea cs ρ as
 | .or as=>ih.eo cs ρ as
 | .ite c a b=>do if ← ih.t cs ρ c then ih.e cs ρ a else ih.e cs ρ b
 | .bin o a b=>do
  let x ← ih.e cs ρ a
  let y ← ih.e cs ρ b
  binM o x y
 | .cmp o a b=>do
  let x ← ih.e cs ρ a
  let y ← ih.e cs ρ b
  cmpM o x y
 | .neg a=>do match ← ih.e cs ρ a with
  | .int i=>pure (.int (-i))
  | _=>stuck
 | .call f as=>do
  let g ← ih.e cs ρ f
  let vs ← ih.es cs ρ as
  callV inits isExc isB isC ih g vs
 | .meth o m as=>do
  let x ← ih.e cs ρ o
  let t ← target meths isB x m
  let vs ← ih.es cs ρ as
  match t with
  | .own k=>ih.fn k [] (x :: vs)
  | .val v=>callV inits isExc isB isC ih v vs
  | .bi=>bltMeth x m vs
 | .attr o m=>do getA meths (← ih.e cs ρ o) m
 | .lst as=>do return .ref (← new (.list (← ih.es cs ρ as)))
 | .tup as=>do return .ref (← new (.tup (← ih.es cs ρ as)))
 | .dic=>do return .ref (← new (.attrs []))
 | .sub o i=>do
  let x ← ih.e cs ρ o
  let y ← ih.e cs ρ i
  getI x y
 | .slc o lo hi=>do
  let x ← ih.e cs ρ o
  let l ← ih.o cs ρ lo
  let h ← ih.o cs ρ hi
  slice x l h
 | .lam k c=>if isC k then do return .ref (← new (.clo k (← opt (caps cs c)))) else stuck
 | .comp elt x nl c it cond=>do
  let s ← src ih cs ρ it
  let acc ← new (.list [])
  ih.co (← opt (caps cs c)) (List.replicate nl none) elt cond x s acc
  return .ref acc
noncomputable def tStep (ih : Ev) (cs : List Nat) (ρ : Lo) : E→M Bool
 | .not a=>do return !(← ih.t cs ρ a)
 | .and as=>ih.ta cs ρ as
 | .or as=>ih.to cs ρ as
 | .ite c a b=>do if ← ih.t cs ρ c then ih.t cs ρ a else ih.t cs ρ b
 | e=>do truth (← ih.e cs ρ e)
noncomputable def asgM (ih : Ev) (cs : List Nat) (ρ : Lo) (v : V) : T→M Lo
 | .loc x=>if x < ρ.length then pure (ρ.set x (some v)) else stuck
 | .cel x=>do setC cs x v; return ρ
 | .attr o m=>do setA meths (← ih.e cs ρ o) m v; return ρ
 | .sub o i=>do
  let x ← ih.e cs ρ o
  let y ← ih.e cs ρ i
  setI x y v
  return ρ
 | .oth=>stuck
noncomputable def asgAll (ih : Ev) (cs : List Nat) : Lo→List T→List V→M Lo
 | ρ,[],[]=>pure ρ
 | ρ,t :: ts,v :: vs=>do asgAll ih cs (← asgM meths ih cs ρ v t) ts vs
 | _,_,_=>stuck
noncomputable def sStep (ih : Ev) (cs : List Nat) (ρ : Lo) : S→M (Fl × Lo)
 | .oth=>stuck
 | .ex e=>do let _ ← ih.e cs ρ e; return (.nxt,ρ)
 | .asg t e=>do
  let v ← ih.e cs ρ e
  return (.nxt,← asgM meths ih cs ρ v t)
 | .asgT ts e=>do
  let v ← ih.e cs ρ e
  match v with
  | .ref n=>do match ← getO n with
   | .tup xs=>if Nat.beq xs.length ts.length then do return (.nxt,← asgAll meths ih cs ρ ts xs) else stuck
   | _=>stuck
  | _=>stuck
 | .augL x o e=>do
  let a ← getL ρ x
  let b ← ih.e cs ρ e
  let c ← augM o a b
  if x < ρ.length then return (.nxt,ρ.set x (some c)) else stuck
 | .augA b m o e=>do
  let x ← ih.e cs ρ b
  let a ← getA meths x m
  let y ← ih.e cs ρ e
  let c ← augM o a y
  setA meths x m c
  return (.nxt,ρ)
 | .ite c a b=>do if ← ih.t cs ρ c then ih.ss cs ρ a else ih.ss cs ρ b
 | .wh c b=>ih.wh cs ρ c b
 | .fo ts it b=>do ih.fo cs ρ ts (← src ih cs ρ it) b
 | .ret e=>do return (.ret (← ih.e cs ρ e),ρ)
 | .raise e=>do
  let v ← ih.e cs ρ e
  match v with
  | .ref n=>do match ← getO n with
   | .exc c d false=>if Nat.beq c 1 then (fun H=>.err n (H.set n (.exc c d true))) else stuck
   | _=>stuck
  | _=>stuck
 | .tryx e c x h=>fun H=>match ih.e cs ρ e H with
  | .stuck=>.stuck
  | .ok v H'=>.ok (.ret v,ρ) H'
  | .err n H'=>match H'[n]? with
   | some (.exc d _ _)=>if Nat.beq c d && Nat.blt x ρ.length then (match ih.e cs (ρ.set x (some (.ref n))) h H' with
     | .ok v H₂=>.ok (.ret v,List.replicate ρ.length none) H₂
     | _=>.stuck) else .stuck
   | _=>.stuck
 | .brk=>pure (.brk,ρ)
 | .pass=>pure (.nxt,ρ)
 | .defn t k c=>if isC k then (do
  let f ← new (.clo k (← opt (caps cs c)))
  return (.nxt,← asgM meths ih cs ρ (.ref f) t)) else stuck
noncomputable def bindP : List (Bool × Nat)→List V→Lo→List (Option V)→Option (Lo × List (Option V))
 | [],[],ρ,cl=>some (ρ,cl)
 | (false,x) :: ps,v :: vs,ρ,cl=>bindP ps vs (ρ.set x (some v)) cl
 | (true,x) :: ps,v :: vs,ρ,cl=>bindP ps vs ρ (cl.set x (some v))
 | _,_,_,_=>none
noncomputable def newCells : List (Option V)→M (List Nat)
 | []=>pure []
 | v :: r=>do
  let n ← new (.cell v)
  return n :: (← newCells r)
noncomputable def fillD (F : Fn) (as : List V) : List V:=match F.dfl,as with
 | [],as=>as
 | d :: ds,[x]=>x :: d :: ds
 | _,_=>[]
noncomputable def fnStep (ih : Ev) (k : Nat) (cl : List Nat) (as : List V) : M V:=
 let F:=fns k
 let as':=fillD F as
 match bindP F.pars as' (List.replicate F.nloc none) (List.replicate F.ncell none) with
 | none=>stuck
 | some (ρ,cv)=>do
  let own ← newCells cv
  match F.body with
  | .inl b=>do
   let (f,_) ← ih.ss (own ++ cl) ρ b
   match f with
   | .ret v=>pure v
   | .nxt=>pure .none
   | .brk=>stuck
  | .inr e=>ih.e (own ++ cl) ρ e
noncomputable def evStep (ih : Ev) : Ev where
 e:=eStep meths inits isExc isB isC ih
 es:=fun cs ρ l=>match l with
  | []=>pure []
  | e :: r=>do
   let v ← ih.e cs ρ e
   return v :: (← ih.es cs ρ r)
 o:=fun cs ρ l=>match l with
  | none=>pure none
  | some e=>do
   let v ← ih.e cs ρ e
   return some v
 t:=tStep ih
 ea:=fun cs ρ l=>match l with
  | []=>stuck
  | [e]=>ih.e cs ρ e
  | e :: r=>do
   let v ← ih.e cs ρ e
   if ← truth v then ih.ea cs ρ r else pure v
 eo:=fun cs ρ l=>match l with
  | []=>stuck
  | [e]=>ih.e cs ρ e
  | e :: r=>do
   let v ← ih.e cs ρ e
   if ← truth v then pure v else ih.eo cs ρ r
 ta:=fun cs ρ l=>match l with
  | []=>pure true
  | e :: r=>do if ← ih.t cs ρ e then ih.ta cs ρ r else pure false
 to:=fun cs ρ l=>match l with
  | []=>pure false
  | e :: r=>do if ← ih.t cs ρ e then pure true else ih.to cs ρ r
 s:=sStep meths isC ih
 ss:=fun cs ρ l=>match l with
  | []=>pure (.nxt,ρ)
  | s :: r=>do
   let (f,ρ') ← ih.s cs ρ s
   match f with
   | .nxt=>ih.ss cs ρ' r
   | f=>pure (f,ρ')
 fn:=fnStep fns ih
 wh:=fun cs ρ c b=>do
  if ← ih.t cs ρ c then do
   let (f,ρ') ← ih.ss cs ρ b
   match f with
   | .nxt=>ih.wh cs ρ' c b
   | .brk=>pure (.nxt,ρ')
   | .ret v=>pure (.ret v,ρ')
  else pure (.nxt,ρ)
 fo:=fun cs ρ ts s b=>do
  match ← nextS s with
  | none=>pure (.nxt,ρ)
  | some (vs,s')=>do
   let ρ₁ ← asgAll meths ih cs ρ ts vs
   let (f,ρ') ← ih.ss cs ρ₁ b
   match f with
   | .nxt=>ih.fo cs ρ' ts s' b
   | .brk=>pure (.nxt,ρ')
   | .ret v=>pure (.ret v,ρ')
 co:=fun cs ρ elt cond x s acc=>do
  match ← nextS s with
  | none=>pure ()
  | some (vs,s')=>do
   match vs with
   | [v]=>do
    let ρ₁:=ρ.set x (some v)
    let ok ← match cond with | none=>pure true | some c=>noErr (ih.t cs ρ₁ c)
    if ok then do
     let y ← noErr (ih.e cs ρ₁ elt)
     match ← getO acc with
     | .list xs=>if xs.length < 50000 then (do setO acc (.list (xs ++ [y])); ih.co cs ρ₁ elt cond x s' acc) else stuck
     | _=>stuck
    else ih.co cs ρ₁ elt cond x s' acc
   | _=>stuck
noncomputable def evZero : Ev where
 e:=fun _ _ _=>stuck
 es:=fun _ _ _=>stuck
 o:=fun _ _ _=>stuck
 t:=fun _ _ _=>stuck
 ea:=fun _ _ _=>stuck
 eo:=fun _ _ _=>stuck
 ta:=fun _ _ _=>stuck
 to:=fun _ _ _=>stuck
 s:=fun _ _ _=>stuck
 ss:=fun _ _ _=>stuck
 fn:=fun _ _ _=>stuck
 wh:=fun _ _ _ _=>stuck
 fo:=fun _ _ _ _ _=>stuck
 co:=fun _ _ _ _ _ _ _=>stuck
noncomputable def evN : Nat→Ev
 | 0=>evZero
 | n + 1=>evStep fns meths inits isExc isB isC (evN n)
end
theorem ex0_3 {P1 P2 P3 : Prop} {G : Prop} (h : P1∧P2∧P3) (k : P1→P2→P3→G) : G:=h.elim fun h1 r2=>r2.elim fun h2 h3=>k h1 h2 h3
theorem ex0_4 {P1 P2 P3 P4 : Prop} {G : Prop} (h : P1∧P2∧P3∧P4) (k : P1→P2→P3→P4→G) : G:=h.elim fun h1 r2=>r2.elim fun h2 r3=>r3.elim fun h3 h4=>k h1 h2 h3 h4
theorem ex0_8 {P1 P2 P3 P4 P5 P6 P7 P8 : Prop} {G : Prop} (h : P1∧P2∧P3∧P4∧P5∧P6∧P7∧P8) (k : P1→P2→P3→P4→P5→P6→P7→P8→G) : G:=h.elim fun h1 r2=>r2.elim fun h2 r3=>r3.elim fun h3 r4=>r4.elim fun h4 r5=>r5.elim fun h5 r6=>r6.elim fun h6 r7=>r7.elim fun h7 h8=>k h1 h2 h3 h4 h5 h6 h7 h8
theorem ex10_2 {A1 A2 A3 A4 A5 A6 A7 A8 A9 A10 : Type} {P1 P2 : A1→A2→A3→A4→A5→A6→A7→A8→A9→A10→Prop} {G : Prop} (h : ∃ a1 a2 a3 a4 a5 a6 a7 a8 a9 a10,P1 a1 a2 a3 a4 a5 a6 a7 a8 a9 a10∧P2 a1 a2 a3 a4 a5 a6 a7 a8 a9 a10) (k : ∀ a1 a2 a3 a4 a5 a6 a7 a8 a9 a10,P1 a1 a2 a3 a4 a5 a6 a7 a8 a9 a10→P2 a1 a2 a3 a4 a5 a6 a7 a8 a9 a10→G) : G:=h.elim fun a1 q2=>q2.elim fun a2 q3=>q3.elim fun a3 q4=>q4.elim fun a4 q5=>q5.elim fun a5 q6=>q6.elim fun a6 q7=>q7.elim fun a7 q8=>q8.elim fun a8 q9=>q9.elim fun a9 q10=>q10.elim fun a10 r1=>r1.elim fun h1 h2=>k a1 a2 a3 a4 a5 a6 a7 a8 a9 a10 h1 h2
theorem ex1_2 {A1 : Type} {P1 P2 : A1→Prop} {G : Prop} (h : ∃ a1,P1 a1∧P2 a1) (k : ∀ a1,P1 a1→P2 a1→G) : G:=h.elim fun a1 r1=>r1.elim fun h1 h2=>k a1 h1 h2
theorem ex1_3 {A1 : Type} {P1 P2 P3 : A1→Prop} {G : Prop} (h : ∃ a1,P1 a1∧P2 a1∧P3 a1) (k : ∀ a1,P1 a1→P2 a1→P3 a1→G) : G:=h.elim fun a1 r1=>r1.elim fun h1 r2=>r2.elim fun h2 h3=>k a1 h1 h2 h3
theorem ex1_4 {A1 : Type} {P1 P2 P3 P4 : A1→Prop} {G : Prop} (h : ∃ a1,P1 a1∧P2 a1∧P3 a1∧P4 a1) (k : ∀ a1,P1 a1→P2 a1→P3 a1→P4 a1→G) : G:=h.elim fun a1 r1=>r1.elim fun h1 r2=>r2.elim fun h2 r3=>r3.elim fun h3 h4=>k a1 h1 h2 h3 h4
theorem ex1_5 {A1 : Type} {P1 P2 P3 P4 P5 : A1→Prop} {G : Prop} (h : ∃ a1,P1 a1∧P2 a1∧P3 a1∧P4 a1∧P5 a1) (k : ∀ a1,P1 a1→P2 a1→P3 a1→P4 a1→P5 a1→G) : G:=h.elim fun a1 r1=>r1.elim fun h1 r2=>r2.elim fun h2 r3=>r3.elim fun h3 r4=>r4.elim fun h4 h5=>k a1 h1 h2 h3 h4 h5
theorem ex1_6 {A1 : Type} {P1 P2 P3 P4 P5 P6 : A1→Prop} {G : Prop} (h : ∃ a1,P1 a1∧P2 a1∧P3 a1∧P4 a1∧P5 a1∧P6 a1) (k : ∀ a1,P1 a1→P2 a1→P3 a1→P4 a1→P5 a1→P6 a1→G) : G:=h.elim fun a1 r1=>r1.elim fun h1 r2=>r2.elim fun h2 r3=>r3.elim fun h3 r4=>r4.elim fun h4 r5=>r5.elim fun h5 h6=>k a1 h1 h2 h3 h4 h5 h6
theorem ex1_7 {A1 : Type} {P1 P2 P3 P4 P5 P6 P7 : A1→Prop} {G : Prop} (h : ∃ a1,P1 a1∧P2 a1∧P3 a1∧P4 a1∧P5 a1∧P6 a1∧P7 a1) (k : ∀ a1,P1 a1→P2 a1→P3 a1→P4 a1→P5 a1→P6 a1→P7 a1→G) : G:=h.elim fun a1 r1=>r1.elim fun h1 r2=>r2.elim fun h2 r3=>r3.elim fun h3 r4=>r4.elim fun h4 r5=>r5.elim fun h5 r6=>r6.elim fun h6 h7=>k a1 h1 h2 h3 h4 h5 h6 h7
theorem ex1_8 {A1 : Type} {P1 P2 P3 P4 P5 P6 P7 P8 : A1→Prop} {G : Prop} (h : ∃ a1,P1 a1∧P2 a1∧P3 a1∧P4 a1∧P5 a1∧P6 a1∧P7 a1∧P8 a1) (k : ∀ a1,P1 a1→P2 a1→P3 a1→P4 a1→P5 a1→P6 a1→P7 a1→P8 a1→G) : G:=h.elim fun a1 r1=>r1.elim fun h1 r2=>r2.elim fun h2 r3=>r3.elim fun h3 r4=>r4.elim fun h4 r5=>r5.elim fun h5 r6=>r6.elim fun h6 r7=>r7.elim fun h7 h8=>k a1 h1 h2 h3 h4 h5 h6 h7 h8
theorem ex2_1 {A1 A2 : Type} {P1 : A1→A2→Prop} {G : Prop} (h : ∃ a1 a2,P1 a1 a2) (k : ∀ a1 a2,P1 a1 a2→G) : G:=h.elim fun a1 q2=>q2.elim fun a2 h1=>k a1 a2 h1
theorem ex2_2 {A1 A2 : Type} {P1 P2 : A1→A2→Prop} {G : Prop} (h : ∃ a1 a2,P1 a1 a2∧P2 a1 a2) (k : ∀ a1 a2,P1 a1 a2→P2 a1 a2→G) : G:=h.elim fun a1 q2=>q2.elim fun a2 r1=>r1.elim fun h1 h2=>k a1 a2 h1 h2
theorem ex2_3 {A1 A2 : Type} {P1 P2 P3 : A1→A2→Prop} {G : Prop} (h : ∃ a1 a2,P1 a1 a2∧P2 a1 a2∧P3 a1 a2) (k : ∀ a1 a2,P1 a1 a2→P2 a1 a2→P3 a1 a2→G) : G:=h.elim fun a1 q2=>q2.elim fun a2 r1=>r1.elim fun h1 r2=>r2.elim fun h2 h3=>k a1 a2 h1 h2 h3
theorem ex2_4 {A1 A2 : Type} {P1 P2 P3 P4 : A1→A2→Prop} {G : Prop} (h : ∃ a1 a2,P1 a1 a2∧P2 a1 a2∧P3 a1 a2∧P4 a1 a2) (k : ∀ a1 a2,P1 a1 a2→P2 a1 a2→P3 a1 a2→P4 a1 a2→G) : G:=h.elim fun a1 q2=>q2.elim fun a2 r1=>r1.elim fun h1 r2=>r2.elim fun h2 r3=>r3.elim fun h3 h4=>k a1 a2 h1 h2 h3 h4
theorem ex2_5 {A1 A2 : Type} {P1 P2 P3 P4 P5 : A1→A2→Prop} {G : Prop} (h : ∃ a1 a2,P1 a1 a2∧P2 a1 a2∧P3 a1 a2∧P4 a1 a2∧P5 a1 a2) (k : ∀ a1 a2,P1 a1 a2→P2 a1 a2→P3 a1 a2→P4 a1 a2→P5 a1 a2→G) : G:=h.elim fun a1 q2=>q2.elim fun a2 r1=>r1.elim fun h1 r2=>r2.elim fun h2 r3=>r3.elim fun h3 r4=>r4.elim fun h4 h5=>k a1 a2 h1 h2 h3 h4 h5
theorem ex2_6 {A1 A2 : Type} {P1 P2 P3 P4 P5 P6 : A1→A2→Prop} {G : Prop} (h : ∃ a1 a2,P1 a1 a2∧P2 a1 a2∧P3 a1 a2∧P4 a1 a2∧P5 a1 a2∧P6 a1 a2) (k : ∀ a1 a2,P1 a1 a2→P2 a1 a2→P3 a1 a2→P4 a1 a2→P5 a1 a2→P6 a1 a2→G) : G:=h.elim fun a1 q2=>q2.elim fun a2 r1=>r1.elim fun h1 r2=>r2.elim fun h2 r3=>r3.elim fun h3 r4=>r4.elim fun h4 r5=>r5.elim fun h5 h6=>k a1 a2 h1 h2 h3 h4 h5 h6
theorem ex3_1 {A1 A2 A3 : Type} {P1 : A1→A2→A3→Prop} {G : Prop} (h : ∃ a1 a2 a3,P1 a1 a2 a3) (k : ∀ a1 a2 a3,P1 a1 a2 a3→G) : G:=h.elim fun a1 q2=>q2.elim fun a2 q3=>q3.elim fun a3 h1=>k a1 a2 a3 h1
theorem ex3_2 {A1 A2 A3 : Type} {P1 P2 : A1→A2→A3→Prop} {G : Prop} (h : ∃ a1 a2 a3,P1 a1 a2 a3∧P2 a1 a2 a3) (k : ∀ a1 a2 a3,P1 a1 a2 a3→P2 a1 a2 a3→G) : G:=h.elim fun a1 q2=>q2.elim fun a2 q3=>q3.elim fun a3 r1=>r1.elim fun h1 h2=>k a1 a2 a3 h1 h2
theorem ex3_3 {A1 A2 A3 : Type} {P1 P2 P3 : A1→A2→A3→Prop} {G : Prop} (h : ∃ a1 a2 a3,P1 a1 a2 a3∧P2 a1 a2 a3∧P3 a1 a2 a3) (k : ∀ a1 a2 a3,P1 a1 a2 a3→P2 a1 a2 a3→P3 a1 a2 a3→G) : G:=h.elim fun a1 q2=>q2.elim fun a2 q3=>q3.elim fun a3 r1=>r1.elim fun h1 r2=>r2.elim fun h2 h3=>k a1 a2 a3 h1 h2 h3
theorem ex3_4 {A1 A2 A3 : Type} {P1 P2 P3 P4 : A1→A2→A3→Prop} {G : Prop} (h : ∃ a1 a2 a3,P1 a1 a2 a3∧P2 a1 a2 a3∧P3 a1 a2 a3∧P4 a1 a2 a3) (k : ∀ a1 a2 a3,P1 a1 a2 a3→P2 a1 a2 a3→P3 a1 a2 a3→P4 a1 a2 a3→G) : G:=h.elim fun a1 q2=>q2.elim fun a2 q3=>q3.elim fun a3 r1=>r1.elim fun h1 r2=>r2.elim fun h2 r3=>r3.elim fun h3 h4=>k a1 a2 a3 h1 h2 h3 h4
theorem ex3_5 {A1 A2 A3 : Type} {P1 P2 P3 P4 P5 : A1→A2→A3→Prop} {G : Prop} (h : ∃ a1 a2 a3,P1 a1 a2 a3∧P2 a1 a2 a3∧P3 a1 a2 a3∧P4 a1 a2 a3∧P5 a1 a2 a3) (k : ∀ a1 a2 a3,P1 a1 a2 a3→P2 a1 a2 a3→P3 a1 a2 a3→P4 a1 a2 a3→P5 a1 a2 a3→G) : G:=h.elim fun a1 q2=>q2.elim fun a2 q3=>q3.elim fun a3 r1=>r1.elim fun h1 r2=>r2.elim fun h2 r3=>r3.elim fun h3 r4=>r4.elim fun h4 h5=>k a1 a2 a3 h1 h2 h3 h4 h5
theorem ex3_6 {A1 A2 A3 : Type} {P1 P2 P3 P4 P5 P6 : A1→A2→A3→Prop} {G : Prop} (h : ∃ a1 a2 a3,P1 a1 a2 a3∧P2 a1 a2 a3∧P3 a1 a2 a3∧P4 a1 a2 a3∧P5 a1 a2 a3∧P6 a1 a2 a3) (k : ∀ a1 a2 a3,P1 a1 a2 a3→P2 a1 a2 a3→P3 a1 a2 a3→P4 a1 a2 a3→P5 a1 a2 a3→P6 a1 a2 a3→G) : G:=h.elim fun a1 q2=>q2.elim fun a2 q3=>q3.elim fun a3 r1=>r1.elim fun h1 r2=>r2.elim fun h2 r3=>r3.elim fun h3 r4=>r4.elim fun h4 r5=>r5.elim fun h5 h6=>k a1 a2 a3 h1 h2 h3 h4 h5 h6
theorem ex3_7 {A1 A2 A3 : Type} {P1 P2 P3 P4 P5 P6 P7 : A1→A2→A3→Prop} {G : Prop} (h : ∃ a1 a2 a3,P1 a1 a2 a3∧P2 a1 a2 a3∧P3 a1 a2 a3∧P4 a1 a2 a3∧P5 a1 a2 a3∧P6 a1 a2 a3∧P7 a1 a2 a3) (k : ∀ a1 a2 a3,P1 a1 a2 a3→P2 a1 a2 a3→P3 a1 a2 a3→P4 a1 a2 a3→P5 a1 a2 a3→P6 a1 a2 a3→P7 a1 a2 a3→G) : G:=h.elim fun a1 q2=>q2.elim fun a2 q3=>q3.elim fun a3 r1=>r1.elim fun h1 r2=>r2.elim fun h2 r3=>r3.elim fun h3 r4=>r4.elim fun h4 r5=>r5.elim fun h5 r6=>r6.elim fun h6 h7=>k a1 a2 a3 h1 h2 h3 h4 h5 h6 h7
theorem ex4_2 {A1 A2 A3 A4 : Type} {P1 P2 : A1→A2→A3→A4→Prop} {G : Prop} (h : ∃ a1 a2 a3 a4,P1 a1 a2 a3 a4∧P2 a1 a2 a3 a4) (k : ∀ a1 a2 a3 a4,P1 a1 a2 a3 a4→P2 a1 a2 a3 a4→G) : G:=h.elim fun a1 q2=>q2.elim fun a2 q3=>q3.elim fun a3 q4=>q4.elim fun a4 r1=>r1.elim fun h1 h2=>k a1 a2 a3 a4 h1 h2
theorem ex4_4 {A1 A2 A3 A4 : Type} {P1 P2 P3 P4 : A1→A2→A3→A4→Prop} {G : Prop} (h : ∃ a1 a2 a3 a4,P1 a1 a2 a3 a4∧P2 a1 a2 a3 a4∧P3 a1 a2 a3 a4∧P4 a1 a2 a3 a4) (k : ∀ a1 a2 a3 a4,P1 a1 a2 a3 a4→P2 a1 a2 a3 a4→P3 a1 a2 a3 a4→P4 a1 a2 a3 a4→G) : G:=h.elim fun a1 q2=>q2.elim fun a2 q3=>q3.elim fun a3 q4=>q4.elim fun a4 r1=>r1.elim fun h1 r2=>r2.elim fun h2 r3=>r3.elim fun h3 h4=>k a1 a2 a3 a4 h1 h2 h3 h4
theorem ex4_6 {A1 A2 A3 A4 : Type} {P1 P2 P3 P4 P5 P6 : A1→A2→A3→A4→Prop} {G : Prop} (h : ∃ a1 a2 a3 a4,P1 a1 a2 a3 a4∧P2 a1 a2 a3 a4∧P3 a1 a2 a3 a4∧P4 a1 a2 a3 a4∧P5 a1 a2 a3 a4∧P6 a1 a2 a3 a4) (k : ∀ a1 a2 a3 a4,P1 a1 a2 a3 a4→P2 a1 a2 a3 a4→P3 a1 a2 a3 a4→P4 a1 a2 a3 a4→P5 a1 a2 a3 a4→P6 a1 a2 a3 a4→G) : G:=h.elim fun a1 q2=>q2.elim fun a2 q3=>q3.elim fun a3 q4=>q4.elim fun a4 r1=>r1.elim fun h1 r2=>r2.elim fun h2 r3=>r3.elim fun h3 r4=>r4.elim fun h4 r5=>r5.elim fun h5 h6=>k a1 a2 a3 a4 h1 h2 h3 h4 h5 h6
theorem ex4_7 {A1 A2 A3 A4 : Type} {P1 P2 P3 P4 P5 P6 P7 : A1→A2→A3→A4→Prop} {G : Prop} (h : ∃ a1 a2 a3 a4,P1 a1 a2 a3 a4∧P2 a1 a2 a3 a4∧P3 a1 a2 a3 a4∧P4 a1 a2 a3 a4∧P5 a1 a2 a3 a4∧P6 a1 a2 a3 a4∧P7 a1 a2 a3 a4) (k : ∀ a1 a2 a3 a4,P1 a1 a2 a3 a4→P2 a1 a2 a3 a4→P3 a1 a2 a3 a4→P4 a1 a2 a3 a4→P5 a1 a2 a3 a4→P6 a1 a2 a3 a4→P7 a1 a2 a3 a4→G) : G:=h.elim fun a1 q2=>q2.elim fun a2 q3=>q3.elim fun a3 q4=>q4.elim fun a4 r1=>r1.elim fun h1 r2=>r2.elim fun h2 r3=>r3.elim fun h3 r4=>r4.elim fun h4 r5=>r5.elim fun h5 r6=>r6.elim fun h6 h7=>k a1 a2 a3 a4 h1 h2 h3 h4 h5 h6 h7
theorem ex5_2 {A1 A2 A3 A4 A5 : Type} {P1 P2 : A1→A2→A3→A4→A5→Prop} {G : Prop} (h : ∃ a1 a2 a3 a4 a5,P1 a1 a2 a3 a4 a5∧P2 a1 a2 a3 a4 a5) (k : ∀ a1 a2 a3 a4 a5,P1 a1 a2 a3 a4 a5→P2 a1 a2 a3 a4 a5→G) : G:=h.elim fun a1 q2=>q2.elim fun a2 q3=>q3.elim fun a3 q4=>q4.elim fun a4 q5=>q5.elim fun a5 r1=>r1.elim fun h1 h2=>k a1 a2 a3 a4 a5 h1 h2
theorem ex5_4 {A1 A2 A3 A4 A5 : Type} {P1 P2 P3 P4 : A1→A2→A3→A4→A5→Prop} {G : Prop} (h : ∃ a1 a2 a3 a4 a5,P1 a1 a2 a3 a4 a5∧P2 a1 a2 a3 a4 a5∧P3 a1 a2 a3 a4 a5∧P4 a1 a2 a3 a4 a5) (k : ∀ a1 a2 a3 a4 a5,P1 a1 a2 a3 a4 a5→P2 a1 a2 a3 a4 a5→P3 a1 a2 a3 a4 a5→P4 a1 a2 a3 a4 a5→G) : G:=h.elim fun a1 q2=>q2.elim fun a2 q3=>q3.elim fun a3 q4=>q4.elim fun a4 q5=>q5.elim fun a5 r1=>r1.elim fun h1 r2=>r2.elim fun h2 r3=>r3.elim fun h3 h4=>k a1 a2 a3 a4 a5 h1 h2 h3 h4
theorem ex5_9 {A1 A2 A3 A4 A5 : Type} {P1 P2 P3 P4 P5 P6 P7 P8 P9 : A1→A2→A3→A4→A5→Prop} {G : Prop} (h : ∃ a1 a2 a3 a4 a5,P1 a1 a2 a3 a4 a5∧P2 a1 a2 a3 a4 a5∧P3 a1 a2 a3 a4 a5∧P4 a1 a2 a3 a4 a5∧P5 a1 a2 a3 a4 a5∧P6 a1 a2 a3 a4 a5∧P7 a1 a2 a3 a4 a5∧P8 a1 a2 a3 a4 a5∧P9 a1 a2 a3 a4 a5) (k : ∀ a1 a2 a3 a4 a5,P1 a1 a2 a3 a4 a5→P2 a1 a2 a3 a4 a5→P3 a1 a2 a3 a4 a5→P4 a1 a2 a3 a4 a5→P5 a1 a2 a3 a4 a5→P6 a1 a2 a3 a4 a5→P7 a1 a2 a3 a4 a5→P8 a1 a2 a3 a4 a5→P9 a1 a2 a3 a4 a5→G) : G:=h.elim fun a1 q2=>q2.elim fun a2 q3=>q3.elim fun a3 q4=>q4.elim fun a4 q5=>q5.elim fun a5 r1=>r1.elim fun h1 r2=>r2.elim fun h2 r3=>r3.elim fun h3 r4=>r4.elim fun h4 r5=>r5.elim fun h5 r6=>r6.elim fun h6 r7=>r7.elim fun h7 r8=>r8.elim fun h8 h9=>k a1 a2 a3 a4 a5 h1 h2 h3 h4 h5 h6 h7 h8 h9
theorem ex6_1 {A1 A2 A3 A4 A5 A6 : Type} {P1 : A1→A2→A3→A4→A5→A6→Prop} {G : Prop} (h : ∃ a1 a2 a3 a4 a5 a6,P1 a1 a2 a3 a4 a5 a6) (k : ∀ a1 a2 a3 a4 a5 a6,P1 a1 a2 a3 a4 a5 a6→G) : G:=h.elim fun a1 q2=>q2.elim fun a2 q3=>q3.elim fun a3 q4=>q4.elim fun a4 q5=>q5.elim fun a5 q6=>q6.elim fun a6 h1=>k a1 a2 a3 a4 a5 a6 h1
theorem ex6_2 {A1 A2 A3 A4 A5 A6 : Type} {P1 P2 : A1→A2→A3→A4→A5→A6→Prop} {G : Prop} (h : ∃ a1 a2 a3 a4 a5 a6,P1 a1 a2 a3 a4 a5 a6∧P2 a1 a2 a3 a4 a5 a6) (k : ∀ a1 a2 a3 a4 a5 a6,P1 a1 a2 a3 a4 a5 a6→P2 a1 a2 a3 a4 a5 a6→G) : G:=h.elim fun a1 q2=>q2.elim fun a2 q3=>q3.elim fun a3 q4=>q4.elim fun a4 q5=>q5.elim fun a5 q6=>q6.elim fun a6 r1=>r1.elim fun h1 h2=>k a1 a2 a3 a4 a5 a6 h1 h2
theorem ex7_2 {A1 A2 A3 A4 A5 A6 A7 : Type} {P1 P2 : A1→A2→A3→A4→A5→A6→A7→Prop} {G : Prop} (h : ∃ a1 a2 a3 a4 a5 a6 a7,P1 a1 a2 a3 a4 a5 a6 a7∧P2 a1 a2 a3 a4 a5 a6 a7) (k : ∀ a1 a2 a3 a4 a5 a6 a7,P1 a1 a2 a3 a4 a5 a6 a7→P2 a1 a2 a3 a4 a5 a6 a7→G) : G:=h.elim fun a1 q2=>q2.elim fun a2 q3=>q3.elim fun a3 q4=>q4.elim fun a4 q5=>q5.elim fun a5 q6=>q6.elim fun a6 q7=>q7.elim fun a7 r1=>r1.elim fun h1 h2=>k a1 a2 a3 a4 a5 a6 a7 h1 h2
theorem in0_3 {P1 P2 P3 : Prop} (h1 : P1) (h2 : P2) (h3 : P3) : P1∧P2∧P3:=⟨h1,h2,h3⟩
theorem in0_4 {P1 P2 P3 P4 : Prop} (h1 : P1) (h2 : P2) (h3 : P3) (h4 : P4) : P1∧P2∧P3∧P4:=⟨h1,h2,h3,h4⟩
theorem in1_2 {A1 : Type} {P1 P2 : A1→Prop} (a1 : A1) (h1 : P1 a1) (h2 : P2 a1) : ∃ a1,P1 a1∧P2 a1:=⟨a1,h1,h2⟩
theorem in1_3 {A1 : Type} {P1 P2 P3 : A1→Prop} (a1 : A1) (h1 : P1 a1) (h2 : P2 a1) (h3 : P3 a1) : ∃ a1,P1 a1∧P2 a1∧P3 a1:=⟨a1,h1,h2,h3⟩
theorem in1_4 {A1 : Type} {P1 P2 P3 P4 : A1→Prop} (a1 : A1) (h1 : P1 a1) (h2 : P2 a1) (h3 : P3 a1) (h4 : P4 a1) : ∃ a1,P1 a1∧P2 a1∧P3 a1∧P4 a1:=⟨a1,h1,h2,h3,h4⟩
theorem in1_6 {A1 : Type} {P1 P2 P3 P4 P5 P6 : A1→Prop} (a1 : A1) (h1 : P1 a1) (h2 : P2 a1) (h3 : P3 a1) (h4 : P4 a1) (h5 : P5 a1) (h6 : P6 a1) : ∃ a1,P1 a1∧P2 a1∧P3 a1∧P4 a1∧P5 a1∧P6 a1:=⟨a1,h1,h2,h3,h4,h5,h6⟩
theorem in1_7 {A1 : Type} {P1 P2 P3 P4 P5 P6 P7 : A1→Prop} (a1 : A1) (h1 : P1 a1) (h2 : P2 a1) (h3 : P3 a1) (h4 : P4 a1) (h5 : P5 a1) (h6 : P6 a1) (h7 : P7 a1) : ∃ a1,P1 a1∧P2 a1∧P3 a1∧P4 a1∧P5 a1∧P6 a1∧P7 a1:=⟨a1,h1,h2,h3,h4,h5,h6,h7⟩
theorem in1_8 {A1 : Type} {P1 P2 P3 P4 P5 P6 P7 P8 : A1→Prop} (a1 : A1) (h1 : P1 a1) (h2 : P2 a1) (h3 : P3 a1) (h4 : P4 a1) (h5 : P5 a1) (h6 : P6 a1) (h7 : P7 a1) (h8 : P8 a1) : ∃ a1,P1 a1∧P2 a1∧P3 a1∧P4 a1∧P5 a1∧P6 a1∧P7 a1∧P8 a1:=⟨a1,h1,h2,h3,h4,h5,h6,h7,h8⟩
theorem in2_1 {A1 A2 : Type} {P1 : A1→A2→Prop} (a1 : A1) (a2 : A2) (h1 : P1 a1 a2) : ∃ a1 a2,P1 a1 a2:=⟨a1,a2,h1⟩
theorem in2_2 {A1 A2 : Type} {P1 P2 : A1→A2→Prop} (a1 : A1) (a2 : A2) (h1 : P1 a1 a2) (h2 : P2 a1 a2) : ∃ a1 a2,P1 a1 a2∧P2 a1 a2:=⟨a1,a2,h1,h2⟩
theorem in2_3 {A1 A2 : Type} {P1 P2 P3 : A1→A2→Prop} (a1 : A1) (a2 : A2) (h1 : P1 a1 a2) (h2 : P2 a1 a2) (h3 : P3 a1 a2) : ∃ a1 a2,P1 a1 a2∧P2 a1 a2∧P3 a1 a2:=⟨a1,a2,h1,h2,h3⟩
theorem in2_4 {A1 A2 : Type} {P1 P2 P3 P4 : A1→A2→Prop} (a1 : A1) (a2 : A2) (h1 : P1 a1 a2) (h2 : P2 a1 a2) (h3 : P3 a1 a2) (h4 : P4 a1 a2) : ∃ a1 a2,P1 a1 a2∧P2 a1 a2∧P3 a1 a2∧P4 a1 a2:=⟨a1,a2,h1,h2,h3,h4⟩
theorem in2_5 {A1 A2 : Type} {P1 P2 P3 P4 P5 : A1→A2→Prop} (a1 : A1) (a2 : A2) (h1 : P1 a1 a2) (h2 : P2 a1 a2) (h3 : P3 a1 a2) (h4 : P4 a1 a2) (h5 : P5 a1 a2) : ∃ a1 a2,P1 a1 a2∧P2 a1 a2∧P3 a1 a2∧P4 a1 a2∧P5 a1 a2:=⟨a1,a2,h1,h2,h3,h4,h5⟩
theorem in2_6 {A1 A2 : Type} {P1 P2 P3 P4 P5 P6 : A1→A2→Prop} (a1 : A1) (a2 : A2) (h1 : P1 a1 a2) (h2 : P2 a1 a2) (h3 : P3 a1 a2) (h4 : P4 a1 a2) (h5 : P5 a1 a2) (h6 : P6 a1 a2) : ∃ a1 a2,P1 a1 a2∧P2 a1 a2∧P3 a1 a2∧P4 a1 a2∧P5 a1 a2∧P6 a1 a2:=⟨a1,a2,h1,h2,h3,h4,h5,h6⟩
theorem in2_8 {A1 A2 : Type} {P1 P2 P3 P4 P5 P6 P7 P8 : A1→A2→Prop} (a1 : A1) (a2 : A2) (h1 : P1 a1 a2) (h2 : P2 a1 a2) (h3 : P3 a1 a2) (h4 : P4 a1 a2) (h5 : P5 a1 a2) (h6 : P6 a1 a2) (h7 : P7 a1 a2) (h8 : P8 a1 a2) : ∃ a1 a2,P1 a1 a2∧P2 a1 a2∧P3 a1 a2∧P4 a1 a2∧P5 a1 a2∧P6 a1 a2∧P7 a1 a2∧P8 a1 a2:=⟨a1,a2,h1,h2,h3,h4,h5,h6,h7,h8⟩
theorem in3_1 {A1 A2 A3 : Type} {P1 : A1→A2→A3→Prop} (a1 : A1) (a2 : A2) (a3 : A3) (h1 : P1 a1 a2 a3) : ∃ a1 a2 a3,P1 a1 a2 a3:=⟨a1,a2,a3,h1⟩
theorem in3_2 {A1 A2 A3 : Type} {P1 P2 : A1→A2→A3→Prop} (a1 : A1) (a2 : A2) (a3 : A3) (h1 : P1 a1 a2 a3) (h2 : P2 a1 a2 a3) : ∃ a1 a2 a3,P1 a1 a2 a3∧P2 a1 a2 a3:=⟨a1,a2,a3,h1,h2⟩
theorem in3_3 {A1 A2 A3 : Type} {P1 P2 P3 : A1→A2→A3→Prop} (a1 : A1) (a2 : A2) (a3 : A3) (h1 : P1 a1 a2 a3) (h2 : P2 a1 a2 a3) (h3 : P3 a1 a2 a3) : ∃ a1 a2 a3,P1 a1 a2 a3∧P2 a1 a2 a3∧P3 a1 a2 a3:=⟨a1,a2,a3,h1,h2,h3⟩
theorem in3_4 {A1 A2 A3 : Type} {P1 P2 P3 P4 : A1→A2→A3→Prop} (a1 : A1) (a2 : A2) (a3 : A3) (h1 : P1 a1 a2 a3) (h2 : P2 a1 a2 a3) (h3 : P3 a1 a2 a3) (h4 : P4 a1 a2 a3) : ∃ a1 a2 a3,P1 a1 a2 a3∧P2 a1 a2 a3∧P3 a1 a2 a3∧P4 a1 a2 a3:=⟨a1,a2,a3,h1,h2,h3,h4⟩
theorem in3_5 {A1 A2 A3 : Type} {P1 P2 P3 P4 P5 : A1→A2→A3→Prop} (a1 : A1) (a2 : A2) (a3 : A3) (h1 : P1 a1 a2 a3) (h2 : P2 a1 a2 a3) (h3 : P3 a1 a2 a3) (h4 : P4 a1 a2 a3) (h5 : P5 a1 a2 a3) : ∃ a1 a2 a3,P1 a1 a2 a3∧P2 a1 a2 a3∧P3 a1 a2 a3∧P4 a1 a2 a3∧P5 a1 a2 a3:=⟨a1,a2,a3,h1,h2,h3,h4,h5⟩
theorem in3_6 {A1 A2 A3 : Type} {P1 P2 P3 P4 P5 P6 : A1→A2→A3→Prop} (a1 : A1) (a2 : A2) (a3 : A3) (h1 : P1 a1 a2 a3) (h2 : P2 a1 a2 a3) (h3 : P3 a1 a2 a3) (h4 : P4 a1 a2 a3) (h5 : P5 a1 a2 a3) (h6 : P6 a1 a2 a3) : ∃ a1 a2 a3,P1 a1 a2 a3∧P2 a1 a2 a3∧P3 a1 a2 a3∧P4 a1 a2 a3∧P5 a1 a2 a3∧P6 a1 a2 a3:=⟨a1,a2,a3,h1,h2,h3,h4,h5,h6⟩
theorem in3_7 {A1 A2 A3 : Type} {P1 P2 P3 P4 P5 P6 P7 : A1→A2→A3→Prop} (a1 : A1) (a2 : A2) (a3 : A3) (h1 : P1 a1 a2 a3) (h2 : P2 a1 a2 a3) (h3 : P3 a1 a2 a3) (h4 : P4 a1 a2 a3) (h5 : P5 a1 a2 a3) (h6 : P6 a1 a2 a3) (h7 : P7 a1 a2 a3) : ∃ a1 a2 a3,P1 a1 a2 a3∧P2 a1 a2 a3∧P3 a1 a2 a3∧P4 a1 a2 a3∧P5 a1 a2 a3∧P6 a1 a2 a3∧P7 a1 a2 a3:=⟨a1,a2,a3,h1,h2,h3,h4,h5,h6,h7⟩
theorem in4_2 {A1 A2 A3 A4 : Type} {P1 P2 : A1→A2→A3→A4→Prop} (a1 : A1) (a2 : A2) (a3 : A3) (a4 : A4) (h1 : P1 a1 a2 a3 a4) (h2 : P2 a1 a2 a3 a4) : ∃ a1 a2 a3 a4,P1 a1 a2 a3 a4∧P2 a1 a2 a3 a4:=⟨a1,a2,a3,a4,h1,h2⟩
theorem in4_4 {A1 A2 A3 A4 : Type} {P1 P2 P3 P4 : A1→A2→A3→A4→Prop} (a1 : A1) (a2 : A2) (a3 : A3) (a4 : A4) (h1 : P1 a1 a2 a3 a4) (h2 : P2 a1 a2 a3 a4) (h3 : P3 a1 a2 a3 a4) (h4 : P4 a1 a2 a3 a4) : ∃ a1 a2 a3 a4,P1 a1 a2 a3 a4∧P2 a1 a2 a3 a4∧P3 a1 a2 a3 a4∧P4 a1 a2 a3 a4:=⟨a1,a2,a3,a4,h1,h2,h3,h4⟩
theorem in4_6 {A1 A2 A3 A4 : Type} {P1 P2 P3 P4 P5 P6 : A1→A2→A3→A4→Prop} (a1 : A1) (a2 : A2) (a3 : A3) (a4 : A4) (h1 : P1 a1 a2 a3 a4) (h2 : P2 a1 a2 a3 a4) (h3 : P3 a1 a2 a3 a4) (h4 : P4 a1 a2 a3 a4) (h5 : P5 a1 a2 a3 a4) (h6 : P6 a1 a2 a3 a4) : ∃ a1 a2 a3 a4,P1 a1 a2 a3 a4∧P2 a1 a2 a3 a4∧P3 a1 a2 a3 a4∧P4 a1 a2 a3 a4∧P5 a1 a2 a3 a4∧P6 a1 a2 a3 a4:=⟨a1,a2,a3,a4,h1,h2,h3,h4,h5,h6⟩
theorem in4_7 {A1 A2 A3 A4 : Type} {P1 P2 P3 P4 P5 P6 P7 : A1→A2→A3→A4→Prop} (a1 : A1) (a2 : A2) (a3 : A3) (a4 : A4) (h1 : P1 a1 a2 a3 a4) (h2 : P2 a1 a2 a3 a4) (h3 : P3 a1 a2 a3 a4) (h4 : P4 a1 a2 a3 a4) (h5 : P5 a1 a2 a3 a4) (h6 : P6 a1 a2 a3 a4) (h7 : P7 a1 a2 a3 a4) : ∃ a1 a2 a3 a4,P1 a1 a2 a3 a4∧P2 a1 a2 a3 a4∧P3 a1 a2 a3 a4∧P4 a1 a2 a3 a4∧P5 a1 a2 a3 a4∧P6 a1 a2 a3 a4∧P7 a1 a2 a3 a4:=⟨a1,a2,a3,a4,h1,h2,h3,h4,h5,h6,h7⟩
theorem in5_2 {A1 A2 A3 A4 A5 : Type} {P1 P2 : A1→A2→A3→A4→A5→Prop} (a1 : A1) (a2 : A2) (a3 : A3) (a4 : A4) (a5 : A5) (h1 : P1 a1 a2 a3 a4 a5) (h2 : P2 a1 a2 a3 a4 a5) : ∃ a1 a2 a3 a4 a5,P1 a1 a2 a3 a4 a5∧P2 a1 a2 a3 a4 a5:=⟨a1,a2,a3,a4,a5,h1,h2⟩
theorem in5_4 {A1 A2 A3 A4 A5 : Type} {P1 P2 P3 P4 : A1→A2→A3→A4→A5→Prop} (a1 : A1) (a2 : A2) (a3 : A3) (a4 : A4) (a5 : A5) (h1 : P1 a1 a2 a3 a4 a5) (h2 : P2 a1 a2 a3 a4 a5) (h3 : P3 a1 a2 a3 a4 a5) (h4 : P4 a1 a2 a3 a4 a5) : ∃ a1 a2 a3 a4 a5,P1 a1 a2 a3 a4 a5∧P2 a1 a2 a3 a4 a5∧P3 a1 a2 a3 a4 a5∧P4 a1 a2 a3 a4 a5:=⟨a1,a2,a3,a4,a5,h1,h2,h3,h4⟩
end Mp
end
section
namespace Mp
noncomputable def fnOth : Fn:=⟨[],0,0,[],.inr .oth⟩
noncomputable def f1 : Fn:=⟨[(false,0),(false,1),(false,2),(false,3),(false,4),(false,5),(false,6),(false,7),(false,8),(false,9),(false,10)],11,0,[.int 64,.int 250,.int 60,.int 200,.int 40,.int 200,.int 2000,.int 50,.int 1000000000,.int 1000000],.inl [.asg (.attr (.loc 0) 5) (.loc 1),.asg (.attr (.loc 0) 6) (.loc 2),.asg (.attr (.loc 0) 7) (.loc 3),.asg (.attr (.loc 0) 8) (.loc 4),.asg (.attr (.loc 0) 9) (.loc 5),.asg (.attr (.loc 0) 10) (.loc 6),.asg (.attr (.loc 0) 11) (.loc 7),.asg (.attr (.loc 0) 12) (.loc 8),.asg (.attr (.loc 0) 13) (.loc 9),.asg (.attr (.loc 0) 14) (.loc 10)]⟩
noncomputable def f4 : Fn:=⟨[(false,0),(false,1)],2,0,[],.inl [.asg (.attr (.loc 0) 15) (.loc 1),.asg (.attr (.loc 0) 16) (.lst []),.asg (.attr (.loc 0) 17) (.cst (.bool false))]⟩
noncomputable def f6 : Fn:=⟨[(false,0)],1,0,[],.inl [.ite (.cmp .is (.loc 0) (.cst .none)) [.ret (.cst (.bool true))] [],.ret (.and [.call (.glo (.blt 1)) [.loc 0,.glo (.ty 1)],.not (.loc 0)])]⟩
noncomputable def f16 : Fn:=⟨[(false,0)],1,0,[],.inl [.ite (.call (.glo (.blt 1)) [.loc 0,.glo (.ty 2)]) [.ret (.loc 0)] [],.ite (.call (.glo (.fn 5)) [.loc 0]) [.ret (.call (.glo (.fn 15)) [.loc 0])] [],.ret (.cst .none)]⟩
noncomputable def f17 : Fn:=⟨[(false,0)],2,0,[],.inl [.asg (.loc 1) (.cst (.int 0)),.wh (.and [.cmp .lt (.loc 1) (.call (.glo (.blt 0)) [.loc 0]),.cmp .ne (.sub (.loc 0) (.loc 1)) (.cst (.int 0))]) [.asg (.loc 1) (.bin .add (.loc 1) (.cst (.int 1)))],.ret (.slc (.loc 0) none (some (.loc 1)))]⟩
noncomputable def f19 : Fn:=⟨[(false,0),(false,1)],5,0,[],.inl [.asg (.loc 0) (.call (.glo (.fn 17)) [.loc 0]),.ite (.cmp .eq (.slc (.loc 0) none (some (.cst (.int 1)))) (.cst (.bytes [61]))) [.ret (.slc (.loc 0) (some (.cst (.int 1))) (some (.loc 1)))] [],.ite (.cmp .eq (.slc (.loc 0) none (some (.cst (.int 1)))) (.cst (.bytes [64]))) [.asgT [.loc 2,.loc 3] (.tup [.call (.glo (.blt 3)) [.bin .sub (.loc 1) (.cst (.int 8)),.cst (.int 0)],.slc (.loc 0) (some (.cst (.int 1))) none]),.ret (.ite (.cmp .gt (.call (.glo (.blt 0)) [.loc 3]) (.loc 2)) (.bin .add (.cst (.bytes [46,46,46])) (.slc (.loc 3) (some (.bin .sub (.call (.glo (.blt 0)) [.loc 3]) (.loc 2))) none)) (.loc 3))] [],.asgT [.loc 4,.loc 2] (.tup [.call (.glo (.fn 18)) [.loc 0],.call (.glo (.blt 3)) [.bin .sub (.loc 1) (.cst (.int 17)),.cst (.int 0)]]),.ite (.cmp .gt (.call (.glo (.blt 0)) [.loc 4]) (.loc 2)) [.asg (.loc 4) (.slc (.loc 4) none (some (.loc 2)))] [],.ite (.cmp .lt (.call (.glo (.blt 0)) [.loc 4]) (.call (.glo (.blt 0)) [.loc 0])) [.asg (.loc 4) (.bin .add (.loc 4) (.cst (.bytes [46,46,46])))] [],.ret (.bin .add (.bin .add (.cst (.bytes [91,115,116,114,105,110,103,32,34])) (.loc 4)) (.cst (.bytes [34,93])))]⟩
noncomputable def f20 : Fn:=⟨[(false,0),(false,1)],2,0,[],.inl [.asg (.attr (.loc 0) 18) (.loc 1),.asg (.attr (.loc 0) 19) (.lst []),.asg (.attr (.loc 0) 20) (.lst []),.asg (.attr (.loc 0) 21) (.cst .none)]⟩
noncomputable def f21 : Fn:=⟨[(false,0),(false,1)],4,0,[],.inl [.fo [.loc 2,.loc 3] (.call (.glo (.ty 4)) [.attr (.loc 0) 19]) [.ite (.call (.glo (.fn 28)) [.loc 3,.loc 1]) [.ret (.loc 2)] []],.ret (.neg (.cst (.int 1)))]⟩
noncomputable def f22 : Fn:=⟨[(false,0),(false,1)],3,0,[],.inl [.asg (.loc 2) (.meth (.loc 0) 22 [.loc 1]),.ret (.ite (.cmp .lt (.loc 2) (.cst (.int 0))) (.cst .none) (.sub (.attr (.loc 0) 20) (.loc 2)))]⟩
noncomputable def f23 : Fn:=⟨[(false,0),(false,1),(false,2)],4,0,[],.inl [.asg (.loc 3) (.meth (.loc 0) 22 [.loc 1]),.ite (.cmp .ge (.loc 3) (.cst (.int 0))) [.asg (.sub (.attr (.loc 0) 20) (.loc 3)) (.loc 2)] [.ite (.cmp .isnt (.loc 2) (.cst .none)) [.ex (.meth (.attr (.loc 0) 19) 1000 [.loc 1]),.ex (.meth (.attr (.loc 0) 20) 1000 [.loc 2])] []]]⟩
noncomputable def f24 : Fn:=⟨[(false,0)],2,0,[],.inl [.asg (.loc 1) (.cst (.int 0)),.wh (.cmp .isnt (.meth (.loc 0) 23 [.bin .add (.loc 1) (.cst (.int 1))]) (.cst .none)) [.augL 1 .add (.cst (.int 1))],.ret (.loc 1)]⟩
noncomputable def f26 : Fn:=⟨[(false,0),(false,1),(false,2),(false,3)],4,0,[],.inl [.asg (.attr (.loc 0) 18) (.loc 1),.asg (.attr (.loc 0) 24) (.loc 2),.asg (.attr (.loc 0) 25) (.loc 3)]⟩
noncomputable def f27 : Fn:=⟨[(false,0)],1,0,[],.inl [.ite (.cmp .is (.loc 0) (.cst .none)) [.ret (.cst (.bytes [110,105,108]))] [],.ite (.call (.glo (.blt 1)) [.loc 0,.glo (.ty 1)]) [.ret (.cst (.bytes [98,111,111,108,101,97,110]))] [],.ite (.call (.glo (.blt 1)) [.loc 0,.glo (.ty 0)]) [.ret (.cst (.bytes [110,117,109,98,101,114]))] [],.ite (.call (.glo (.blt 1)) [.loc 0,.glo (.ty 2)]) [.ret (.cst (.bytes [115,116,114,105,110,103]))] [],.ret (.ite (.call (.glo (.blt 1)) [.loc 0,.glo (.cls 2)]) (.cst (.bytes [116,97,98,108,101])) (.cst (.bytes [102,117,110,99,116,105,111,110])))]⟩
noncomputable def f28 : Fn:=⟨[(false,0),(false,1)],3,0,[],.inl [.asg (.loc 2) (.call (.glo (.fn 27)) [.loc 0]),.ite (.cmp .ne (.loc 2) (.call (.glo (.fn 27)) [.loc 1])) [.ret (.cst (.bool false))] [],.ite (.or [.cmp .eq (.loc 2) (.cst (.bytes [116,97,98,108,101])),.cmp .eq (.loc 2) (.cst (.bytes [102,117,110,99,116,105,111,110]))]) [.ret (.cmp .eq (.attr (.loc 0) 18) (.attr (.loc 1) 18))] [],.ret (.cmp .eq (.loc 0) (.loc 1))]⟩
noncomputable def f29 : Fn:=⟨[(false,0)],1,0,[],.inl [.ret (.cmp .eq (.call (.glo (.fn 27)) [.loc 0]) (.cst (.bytes [102,117,110,99,116,105,111,110])))]⟩
noncomputable def f30 : Fn:=⟨[(false,0),(false,1),(false,2),(false,3)],4,0,[],.inl [.asg (.attr (.loc 0) 18) (.loc 1),.asg (.attr (.loc 0) 26) (.loc 2),.asg (.attr (.loc 0) 27) (.loc 3),.asg (.attr (.loc 0) 28) (.cst (.int 0)),.asg (.attr (.loc 0) 29) (.cst (.int 0))]⟩
noncomputable def f31 : Fn:=⟨[(false,0),(false,1),(false,2)],3,0,[],.inl [.asg (.attr (.loc 0) 30) (.loc 1),.asg (.attr (.loc 0) 31) (.call (.glo (.fn 19)) [.loc 2,.cst (.int 60)]),.asg (.attr (.loc 0) 32) (.lst []),.asg (.attr (.loc 0) 13) (.cst (.int 0)),.asg (.attr (.loc 0) 33) (.cst (.int 0)),.asg (.attr (.loc 0) 10) (.lst []),.asg (.attr (.loc 0) 29) (.cst (.int 0)),.asg (.attr (.loc 0) 34) (.call (.glo (.cls 2)) [.neg (.cst (.int 60))])]⟩
noncomputable def f33 : Fn:=⟨[(false,0)],1,0,[],.inl [.augA (.loc 0) 13 .add (.cst (.int 1)),.ite (.cmp .gt (.attr (.loc 0) 13) (.attr (.attr (.loc 0) 30) 13)) [.raise (.call (.glo (.cls 1)) [.cst (.bytes [116,111,111,32,109,97,110,121,32,115,116,101,112,115])])] []]⟩
noncomputable def f34 : Fn:=⟨[(false,0),(false,1)],2,0,[],.inl [.augA (.loc 0) 29 .add (.loc 1),.ite (.cmp .gt (.attr (.loc 0) 29) (.glo (.int 820))) [.ex (.meth (.loc 0) 35 [.cst (.bytes [115,116,97,99,107,32,111,118,101,114,102,108,111,119])])] []]⟩
noncomputable def f35 : Fn:=⟨[(false,0),(false,1)],3,0,[],.inl [.asg (.loc 2) (.bin .sub (.bin .sub (.call (.glo (.blt 0)) [.attr (.loc 0) 10]) (.cst (.int 1))) (.loc 1)),.ite (.or [.cmp .lt (.loc 2) (.cst (.int 0)),.cmp .lt (.attr (.sub (.attr (.loc 0) 10) (.loc 2)) 28) (.cst (.int 1))]) [.ret (.cst (.bytes []))] [],.ret (.bin .add (.bin .add (.bin .add (.attr (.loc 0) 31) (.cst (.bytes [58]))) (.call (.glo (.fn 15)) [.attr (.sub (.attr (.loc 0) 10) (.loc 2)) 28])) (.cst (.bytes [58,32])))]⟩
noncomputable def f36 : Fn:=⟨[(false,0),(false,1)],2,0,[],.inl [.raise (.call (.glo (.cls 1)) [.bin .add (.meth (.loc 0) 36 [.cst (.int 0)]) (.loc 1)])]⟩
noncomputable def f38 : Fn:=⟨[(false,0),(false,1),(false,2),(false,3)],5,0,[],.inl [.asg (.loc 4) (.call (.glo (.fn 27)) [.loc 1]),.ite (.cmp .eq (.loc 3) (.cst (.bytes []))) [.ex (.meth (.loc 0) 35 [.bin .add (.bin .add (.bin .add (.bin .add (.cst (.bytes [97,116,116,101,109,112,116,32,116,111,32])) (.loc 2)) (.cst (.bytes [32,97,32]))) (.loc 4)) (.cst (.bytes [32,118,97,108,117,101]))])] [],.ex (.meth (.loc 0) 35 [.bin .add (.bin .add (.bin .add (.bin .add (.bin .add (.bin .add (.cst (.bytes [97,116,116,101,109,112,116,32,116,111,32])) (.loc 2)) (.cst (.bytes [32]))) (.loc 3)) (.cst (.bytes [32,40,97,32]))) (.loc 4)) (.cst (.bytes [32,118,97,108,117,101,41]))])]⟩
noncomputable def f39 : Fn:=⟨[(false,0),(false,1)],2,0,[],.inl [.asg (.attr (.loc 0) 10) (.slc (.attr (.loc 0) 10) none (some (.loc 1))),.asg (.attr (.loc 0) 29) (.ite (.cmp .gt (.call (.glo (.blt 0)) [.attr (.loc 0) 10]) (.cst (.int 0))) (.attr (.sub (.attr (.loc 0) 10) (.neg (.cst (.int 1)))) 29) (.cst (.int 0)))]⟩
noncomputable def f40 : Fn:=⟨[(false,0),(false,1),(false,2)],3,0,[],.inl [.ite (.call (.glo (.blt 1)) [.loc 1,.glo (.cls 2)]) [.ret (.ite (.cmp .is (.attr (.loc 1) 21) (.cst .none)) (.cst .none) (.meth (.attr (.loc 1) 21) 23 [.loc 2]))] [],.ite (.call (.glo (.blt 1)) [.loc 1,.glo (.ty 2)]) [.ret (.meth (.attr (.loc 0) 34) 23 [.loc 2])] [],.ret (.cst .none)]⟩
noncomputable def f41 : Fn:=⟨[(false,0),(false,1),(false,2)],4,0,[],.inl [.asg (.loc 3) (.meth (.loc 0) 37 [.loc 1,.loc 2,.cst (.bytes [])]),.ret (.ite (.cmp .gt (.call (.glo (.blt 0)) [.loc 3]) (.cst (.int 0))) (.sub (.loc 3) (.cst (.int 0))) (.cst .none))]⟩
noncomputable def f43 : Fn:=⟨[(false,0),(false,1),(false,2),(false,3)],4,0,[],.inl [.ret (.meth (.loc 0) 38 [.loc 1,.loc 2,.loc 3])]⟩
noncomputable def f44 : Fn:=⟨[(false,0),(false,1),(false,2),(false,3)],5,0,[],.inl [.ite (.call (.glo (.blt 1)) [.loc 1,.glo (.cls 3)]) [.ret (.meth (.loc 0) 39 [.loc 1,.loc 2])] [],.asg (.loc 4) (.meth (.loc 0) 40 [.loc 1,.cst (.bytes [95,95,99,97,108,108])]),.ite (.not (.call (.glo (.fn 29)) [.loc 4])) [.ex (.meth (.loc 0) 41 [.loc 1,.cst (.bytes [99,97,108,108]),.loc 3])] [],.ret (.meth (.loc 0) 37 [.loc 4,.bin .add (.lst [.loc 1]) (.loc 2),.cst (.bytes [])])]⟩
noncomputable def f45 : Fn:=⟨[(false,0),(false,1),(false,2)],5,0,[],.inl [.ex (.meth (.loc 0) 42 []),.ex (.meth (.loc 0) 43 [.glo (.int 8)]),.asg (.loc 3) (.call (.glo (.cls 4)) [.neg (.cst (.int 1)),.dic,.lst []]),.asgT [.attr (.loc 3) 28,.attr (.loc 3) 29] (.tup [.neg (.cst (.int 1)),.attr (.loc 0) 29]),.ex (.meth (.attr (.loc 0) 10) 1000 [.loc 3]),.asg (.loc 4) (.meth (.loc 1) 25 [.loc 0,.loc 2]),.ex (.meth (.attr (.loc 0) 10) 1001 []),.augA (.loc 0) 29 .sub (.glo (.int 8)),.ret (.loc 4)]⟩
noncomputable def f51 : Fn:=⟨[(false,0),(false,1)],2,0,[],.inl [.ret (.ite (.cmp .le (.loc 1) (.call (.glo (.blt 0)) [.loc 0])) (.sub (.loc 0) (.bin .sub (.loc 1) (.cst (.int 1)))) (.cst .none))]⟩
noncomputable def f58 : Fn:=⟨[(false,0),(false,1),(false,2),(false,3)],5,0,[],.inl [.asg (.loc 4) (.call (.glo (.fn 51)) [.loc 2,.loc 3]),.ite (.not (.call (.glo (.blt 1)) [.loc 4,.glo (.cls 2)])) [.ex (.call (.glo (.fn 53)) [.loc 0,.loc 1,.loc 3,.bin .add (.cst (.bytes [116,97,98,108,101,32,101,120,112,101,99,116,101,100,44,32,103,111,116,32])) (.call (.glo (.fn 52)) [.loc 2,.loc 3])])] [],.ret (.loc 4)]⟩
noncomputable def f59 : Fn:=⟨[(false,0),(false,1),(false,2)],8,0,[],.inl [.asgT [.loc 3,.loc 4] (.tup [.lst [],.meth (.loc 2) 23 [.cst (.bytes [116,111,115,116,114,105,110,103])]]),.fo [.loc 5] (.loc 1) [.asg (.loc 6) (.meth (.loc 0) 37 [.loc 4,.lst [.loc 5],.cst (.bytes [])]),.asg (.loc 7) (.ite (.cmp .gt (.call (.glo (.blt 0)) [.loc 6]) (.cst (.int 0))) (.call (.glo (.fn 16)) [.sub (.loc 6) (.cst (.int 0))]) (.cst .none)),.ite (.cmp .is (.loc 7) (.cst .none)) [.ex (.meth (.loc 0) 44 [.cst (.bytes [39,116,111,115,116,114,105,110,103,39,32,109,117,115,116,32,114,101,116,117,114,110,32,97,32,115,116,114,105,110,103,32,116,111,32,39,112,114,105,110,116,39])])] [],.ex (.meth (.loc 3) 1000 [.loc 7])],.ex (.meth (.attr (.loc 0) 32) 1000 [.meth (.cst (.bytes [9])) 1002 [.loc 3]]),.ret (.lst [])]⟩
noncomputable def f83 : Fn:=⟨[(false,0),(false,1)],8,0,[],.inl [.asg (.loc 2) (.call (.glo (.fn 58)) [.loc 0,.cst (.bytes [115,111,114,116]),.loc 1,.cst (.int 1)]),.asg (.loc 3) (.call (.glo (.fn 51)) [.loc 1,.cst (.int 2)]),.ite (.and [.cmp .isnt (.loc 3) (.cst .none),.not (.call (.glo (.fn 29)) [.loc 3])]) [.ex (.call (.glo (.fn 53)) [.loc 0,.cst (.bytes [115,111,114,116]),.cst (.int 2),.bin .add (.cst (.bytes [102,117,110,99,116,105,111,110,32,101,120,112,101,99,116,101,100,44,32,103,111,116,32])) (.call (.glo (.fn 52)) [.loc 1,.cst (.int 2)])])] [],.fo [.loc 4] (.call (.glo (.ty 3)) [.cst (.int 2),.bin .add (.meth (.loc 2) 45 []) (.cst (.int 1))]) [.asg (.loc 5) (.loc 4),.wh (.cmp .gt (.loc 5) (.cst (.int 1))) [.asgT [.loc 6,.loc 7] (.tup [.meth (.loc 2) 23 [.loc 5],.meth (.loc 2) 23 [.bin .sub (.loc 5) (.cst (.int 1))]]),.ite (.not (.call (.glo (.fn 84)) [.loc 0,.loc 3,.loc 6,.loc 7])) [.brk] [],.ex (.meth (.loc 2) 46 [.loc 5,.loc 7]),.ex (.meth (.loc 2) 46 [.bin .sub (.loc 5) (.cst (.int 1)),.loc 6]),.augL 5 .sub (.cst (.int 1))]],.ret (.lst [])]⟩
noncomputable def f84 : Fn:=⟨[(false,0),(false,1),(false,2),(false,3)],4,0,[],.inl [.ite (.cmp .is (.loc 1) (.cst .none)) [.ret (.meth (.loc 0) 47 [.loc 2,.loc 3])] [],.ret (.not (.call (.glo (.fn 6)) [.meth (.loc 0) 48 [.loc 1,.lst [.loc 2,.loc 3]]]))]⟩
noncomputable def f97 : Fn:=⟨[(false,0),(false,1)],5,0,[],.inl [.asg (.loc 2) (.call (.glo (.cls 2)) [.loc 0]),.fo [.loc 3,.loc 4] (.call (.glo (.ty 4)) [.loc 1]) [.ex (.meth (.loc 2) 46 [.sub (.loc 4) (.cst (.int 0)),.call (.glo (.cls 3)) [.bin .sub (.loc 0) (.loc 3),.sub (.loc 4) (.cst (.int 0)),.sub (.loc 4) (.cst (.int 1))]])],.ret (.loc 2)]⟩
noncomputable def f98 : Fn:=⟨[(false,0)],3,1,[],.inl [.defn (.loc 1) 107 [0],.asg (.cel 0) (.call (.glo (.fn 97)) [.neg (.cst (.int 1)),.lst [.tup [.cst (.bytes [112,114,105,110,116]),.loc 1],.tup [.cst (.bytes [116,121,112,101]),.glo (.fn 61)],.tup [.cst (.bytes [116,111,115,116,114,105,110,103]),.glo (.fn 62)],.tup [.cst (.bytes [116,111,110,117,109,98,101,114]),.glo (.fn 63)],.tup [.cst (.bytes [110,101,120,116]),.glo (.fn 64)],.tup [.cst (.bytes [112,97,105,114,115]),.glo (.fn 65)],.tup [.cst (.bytes [105,112,97,105,114,115]),.glo (.fn 67)],.tup [.cst (.bytes [114,97,119,103,101,116]),.glo (.fn 68)],.tup [.cst (.bytes [114,97,119,115,101,116]),.glo (.fn 69)],.tup [.cst (.bytes [114,97,119,101,113,117,97,108]),.glo (.fn 70)],.tup [.cst (.bytes [115,101,108,101,99,116]),.glo (.fn 71)],.tup [.cst (.bytes [117,110,112,97,99,107]),.glo (.fn 72)],.tup [.cst (.bytes [97,115,115,101,114,116]),.glo (.fn 73)],.tup [.cst (.bytes [101,114,114,111,114]),.glo (.fn 74)],.tup [.cst (.bytes [112,99,97,108,108]),.glo (.fn 75)],.tup [.cst (.bytes [115,101,116,109,101,116,97,116,97,98,108,101]),.glo (.fn 76)],.tup [.cst (.bytes [103,101,116,109,101,116,97,116,97,98,108,101]),.glo (.fn 77)]]]),.ex (.meth (.cel 0) 46 [.cst (.bytes [116,97,98,108,101]),.call (.glo (.fn 97)) [.neg (.cst (.int 30)),.lst [.tup [.cst (.bytes [105,110,115,101,114,116]),.glo (.fn 78)],.tup [.cst (.bytes [114,101,109,111,118,101]),.glo (.fn 79)],.tup [.cst (.bytes [99,111,110,99,97,116]),.glo (.fn 80)],.tup [.cst (.bytes [103,101,116,110]),.glo (.fn 81)],.tup [.cst (.bytes [109,97,120,110]),.glo (.fn 82)],.tup [.cst (.bytes [115,111,114,116]),.glo (.fn 83)]]]]),.asg (.loc 2) (.call (.glo (.fn 97)) [.neg (.cst (.int 40)),.lst [.tup [.cst (.bytes [108,101,110]),.glo (.fn 85)],.tup [.cst (.bytes [115,117,98]),.glo (.fn 87)],.tup [.cst (.bytes [114,101,112]),.glo (.fn 88)],.tup [.cst (.bytes [114,101,118,101,114,115,101]),.glo (.fn 89)],.tup [.cst (.bytes [108,111,119,101,114]),.glo (.fn 90)],.tup [.cst (.bytes [117,112,112,101,114]),.glo (.fn 91)],.tup [.cst (.bytes [98,121,116,101]),.glo (.fn 92)],.tup [.cst (.bytes [99,104,97,114]),.glo (.fn 93)]]]),.ex (.meth (.cel 0) 46 [.cst (.bytes [115,116,114,105,110,103]),.loc 2]),.ex (.meth (.attr (.loc 0) 34) 46 [.cst (.bytes [95,95,105,110,100,101,120]),.loc 2]),.ex (.meth (.cel 0) 46 [.cst (.bytes [109,97,116,104]),.call (.glo (.fn 97)) [.neg (.cst (.int 50)),.lst [.tup [.cst (.bytes [97,98,115]),.glo (.fn 94)],.tup [.cst (.bytes [109,97,120]),.glo (.fn 95)],.tup [.cst (.bytes [109,105,110]),.glo (.fn 96)]]]]),.ex (.meth (.cel 0) 46 [.cst (.bytes [95,71]),.cel 0]),.ex (.meth (.cel 0) 46 [.cst (.bytes [95,86,69,82,83,73,79,78]),.cst (.bytes [76,117,97,32,53,46,49])]),.ret (.cel 0)]⟩
noncomputable def f99 : Fn:=⟨[(false,0),(false,1)],3,0,[],.inl [.asg (.sub (.loc 0) (.cst (.int 1))) (.bin .add (.sub (.loc 0) (.cst (.int 1))) (.cst (.int 1))),.asg (.loc 2) (.sub (.loc 0) (.cst (.int 1))),.ret (.ite (.cmp .le (.loc 2) (.call (.glo (.blt 0)) [.sub (.loc 0) (.cst (.int 0))])) (.bin .mod (.call (.glo (.blt 2)) [.sub (.sub (.loc 0) (.cst (.int 0))) (.bin .sub (.loc 2) (.cst (.int 1)))]) (.loc 1)) (.bin .mod (.bin .add (.bin .add (.bin .mul (.cst (.int 9)) (.loc 2)) (.bin .div (.loc 2) (.cst (.int 2)))) (.cst (.int 4))) (.loc 1)))]⟩
noncomputable def f100 : Fn:=⟨[(false,0),(false,1),(false,2),(false,3)],7,0,[],.inl [.asg (.loc 4) (.loc 1),.fo [.loc 5] (.meth (.loc 2) 1003 [.cst (.str [46])]) [.asg (.loc 4) (.meth (.loc 4) 23 [.meth (.loc 5) 1004 [.cst (.str [97,115,99,105,105])]])],.ex (.meth (.loc 0) 49 [.cst (.int 0)]),.tryx (.meth (.loc 0) 37 [.loc 4,.loc 3,.cst (.bytes [])]) 1 6 (.attr (.loc 6) 15)]⟩
noncomputable def f101 : Fn:=⟨[(true,0),(false,0)],1,1,[],.inl [.ret (.comp (.meth (.cel 0) 23 [.bin .add (.loc 1) (.cst (.int 1))]) 1 2 [0] (.call (.glo (.ty 3)) [.loc 0]) none)]⟩
noncomputable def f102 : Fn:=⟨[(false,0),(false,1),(false,2),(false,3),(false,4)],5,0,[],.inl [.ex (.meth (.loc 0) 1000 [.call (.glo (.fn 101)) [.loc 1,.loc 2]]),.ite (.cmp .gt (.call (.glo (.blt 0)) [.loc 0]) (.loc 3)) [.raise (.call (.glo (.cls 1)) [.cst (.bytes [101,110,111,117,103,104])])] [],.ret (.lst [.cmp .lt (.sub (.loc 4) (.cst (.int 0))) (.sub (.loc 4) (.cst (.int 1)))])]⟩
noncomputable def f103 : Fn:=⟨[(true,0),(false,0),(false,1)],7,6,[],.inl [.asg (.cel 1) (.comp (.call (.glo (.fn 99)) [.cel 0,.cst (.int 5)]) 1 2 [0] (.call (.glo (.ty 3)) [.call (.glo (.fn 99)) [.cel 0,.cst (.int 7)]]) none),.asgT [.cel 2,.cel 3,.cel 4,.cel 5] (.tup [.call (.glo (.fn 99)) [.cel 0,.cst (.int 16)],.call (.glo (.blt 0)) [.cel 1],.lst [],.call (.glo (.cls 2)) [.neg (.cst (.int 91))]]),.fo [.loc 2,.loc 3] (.call (.glo (.ty 4)) [.cel 1]) [.ex (.meth (.cel 5) 46 [.bin .add (.loc 2) (.cst (.int 1)),.loc 3])],.asg (.loc 4) (.call (.glo (.cls 3)) [.neg (.cst (.int 92)),.cst (.bytes [111,114,100,101,114]),.lam 108 [2,3,4,5]]),.asg (.loc 5) (.call (.glo (.fn 100)) [.loc 0,.loc 1,.cst (.str [116,97,98,108,101,46,115,111,114,116]),.lst [.cel 5,.loc 4]]),.asg (.loc 6) (.call (.glo (.fn 101)) [.cel 5,.cel 3]),.ite (.cmp .ne (.comp (.loc 1) 1 2 [1] (.bin .add (.cel 4) (.lst [.loc 6])) (some (.cmp .ne (.call (.glo (.blt 5)) [.loc 1]) (.call (.glo (.blt 5)) [.cel 0])))) (.lst [])) [.ret (.cst (.bool false))] [],.ite (.cmp .eq (.loc 5) (.cst (.bytes [101,110,111,117,103,104]))) [.ret (.cmp .eq (.call (.glo (.blt 0)) [.cel 4]) (.bin .add (.cel 2) (.cst (.int 1))))] [],.ret (.and [.cmp .eq (.loc 5) (.lst []),.cmp .eq (.loc 6) (.call (.glo (.blt 5)) [.cel 1]),.cmp .le (.call (.glo (.blt 0)) [.cel 4]) (.cel 2),.cmp .ge (.cel 2) (.bin .sub (.cel 3) (.cst (.int 1)))])]⟩
noncomputable def f104 : Fn:=⟨[(false,0),(false,1),(false,2)],3,0,[],.inl [.ex (.meth (.loc 2) 1000 [.cst (.int 1)]),.ex (.meth (.loc 0) 46 [.cst (.bytes [116,111,115,116,114,105,110,103]),.loc 1]),.ret (.lst [.cst (.bytes [97,98])])]⟩
noncomputable def f105 : Fn:=⟨[(false,0),(false,1),(true,0)],4,3,[],.inl [.asgT [.cel 1,.loc 2] (.tup [.lst [],.call (.glo (.fn 99)) [.loc 0,.cst (.int 4)]]),.asg (.cel 2) (.sub (.lst [.cst .none,.call (.glo (.cls 3)) [.neg (.cst (.int 93)),.cst (.bytes [108,97,116,101,114]),.lam 109 []]]) (.call (.glo (.fn 99)) [.loc 0,.cst (.int 2)])),.ex (.meth (.cel 0) 46 [.cst (.bytes [116,111,115,116,114,105,110,103]),.call (.glo (.cls 3)) [.neg (.cst (.int 94)),.cst (.bytes [116,111,108,100]),.lam 110 [1,2,0]]]),.ite (.or [.cmp .ne (.call (.glo (.fn 100)) [.loc 1,.cel 0,.cst (.str [112,114,105,110,116]),.slc (.lst [.cst (.bool true),.cst (.int 5),.cst (.bytes [120])]) none (some (.loc 2))]) (.lst []),.cmp .ne (.call (.glo (.blt 0)) [.cel 1]) (.call (.glo (.blt 4)) [.loc 2,.cst (.int 3)])]) [.ret (.cst (.bool false))] [],.ite (.cmp .ne (.attr (.loc 1) 32) (.lst [.meth (.cst (.bytes [9])) 1002 [.bin .mul (.lst [.cst (.bytes [97,98])]) (.call (.glo (.blt 4)) [.loc 2,.cst (.int 3)])]])) [.ret (.cst (.bool false))] [],.ex (.meth (.cel 0) 46 [.cst (.bytes [116,111,115,116,114,105,110,103]),.cel 2]),.ite (.or [.cmp .ne (.call (.glo (.fn 100)) [.loc 1,.cel 0,.cst (.str [112,114,105,110,116]),.lst []]) (.lst []),.cmp .ne (.slc (.attr (.loc 1) 32) (some (.cst (.int 1))) none) (.lst [.cst (.bytes [])])]) [.ret (.cst (.bool false))] [],.asg (.loc 3) (.call (.glo (.fn 100)) [.loc 1,.cel 0,.cst (.str [112,114,105,110,116]),.lst [.cst (.int 1)]]),.ret (.ite (.cmp .is (.cel 2) (.cst .none)) (.cmp .eq (.loc 3) (.cst (.bytes [97,116,116,101,109,112,116,32,116,111,32,99,97,108,108,32,97,32,110,105,108,32,118,97,108,117,101]))) (.and [.cmp .eq (.loc 3) (.lst []),.cmp .eq (.slc (.attr (.loc 1) 32) (some (.cst (.int 2))) none) (.lst [.cst (.bytes [108,97,116,101,114])])]))]⟩
noncomputable def f106 : Fn:=⟨[(false,0)],5,0,[],.inl [.asgT [.loc 1,.loc 2] (.tup [.lst [.call (.glo (.ty 5)) [.slc (.loc 0) none (some (.cst (.int 30)))],.cst (.int 0)],.call (.glo (.cls 5)) [.call (.glo (.cls 0)) [],.cst (.bytes [61,108,97,119])]]),.asg (.loc 3) (.call (.glo (.fn 98)) [.loc 2]),.fo [.loc 4] (.call (.glo (.ty 3)) [.cst (.int 2)]) [.ite (.not (.call (.glo (.fn 103)) [.loc 1,.loc 2,.loc 3])) [.ret (.cst (.bool false))] []],.ret (.call (.glo (.fn 105)) [.loc 1,.loc 2,.loc 3])]⟩
noncomputable def f107 : Fn:=⟨[(false,0),(false,1)],2,0,[],.inl [.ret (.call (.glo (.fn 59)) [.loc 0,.loc 1,.cel 0])]⟩
noncomputable def f108 : Fn:=⟨[(false,0),(false,1)],2,0,[],.inr (.call (.glo (.fn 102)) [.cel 2,.cel 3,.cel 1,.cel 0,.loc 1])⟩
noncomputable def f109 : Fn:=⟨[(false,0),(false,1)],2,0,[],.inr (.lst [.cst (.bytes [108,97,116,101,114])])⟩
noncomputable def f110 : Fn:=⟨[(false,0),(false,1)],2,0,[],.inr (.call (.glo (.fn 104)) [.cel 2,.cel 1,.cel 0])⟩
noncomputable def fnTab : List Fn:=[fnOth,f1,fnOth,fnOth,f4,fnOth,f6,fnOth,fnOth,fnOth,fnOth,fnOth,fnOth,fnOth,fnOth,fnOth,f16,f17,fnOth,f19,f20,f21,f22,f23,f24,fnOth,f26,f27,f28,f29,f30,f31,fnOth,f33,f34,f35,f36,fnOth,f38,f39,f40,f41,fnOth,f43,f44,f45,fnOth,fnOth,fnOth,fnOth,fnOth,f51,fnOth,fnOth,fnOth,fnOth,fnOth,fnOth,f58,f59,fnOth,fnOth,fnOth,fnOth,fnOth,fnOth,fnOth,fnOth,fnOth,fnOth,fnOth,fnOth,fnOth,fnOth,fnOth,fnOth,fnOth,fnOth,fnOth,fnOth,fnOth,fnOth,fnOth,f83,f84,fnOth,fnOth,fnOth,fnOth,fnOth,fnOth,fnOth,fnOth,fnOth,fnOth,fnOth,fnOth,f97,f98,f99,f100,f101,f102,f103,f104,f105,f106,f107,f108,f109,f110]
noncomputable def fnT (k : Nat) : Fn:=(fnTab[k]?).getD fnOth
noncomputable def iniTab : List Nat:=[1,4,20,26,30,31]
noncomputable def iniT (c : Nat) : Nat:=(iniTab[c]?).getD 0
noncomputable def excT (c : Nat) : Bool:=Nat.beq c 1
noncomputable def methTab : List (List (Nat × Nat)):=[[],[],[(22,21),(23,22),(46,23),(45,24)],[],[],[(42,33),(43,34),(36,35),(35,36),(44,37),(41,38),(49,39),(40,40),(48,41),(37,43),(38,44),(39,45),(47,49)]]
noncomputable def lookN (m : Nat) : List (Nat × Nat)→Option Nat
 | []=>none
 | p :: r=>if Nat.beq p.1 m then some p.2 else lookN m r
noncomputable def methT (c m : Nat) : Option Nat:=lookN m ((methTab[c]?).getD [])
noncomputable def bTab : List Bool:=[false,true,false,false,true,false,true,false,false,false,false,false,false,false,false,false,true,true,false,true,true,true,true,true,true,false,true,true,true,true,true,true,false,true,true,true,true,false,true,true,true,true,false,true,true,true,false,false,false,false,false,true,false,false,false,false,false,false,true,true,false,false,false,false,false,false,false,false,false,false,false,false,false,false,false,false,false,false,false,false,false,false,false,true,true,false,false,false,false,false,false,false,false,false,false,false,false,true,true,true,true,true,true,true,true,true,true,false,false,false,false]
noncomputable def isB (k : Nat) : Bool:=(bTab[k]?).getD false
noncomputable def isC (k : Nat) : Bool:=Nat.blt 106 k && Nat.blt k 111
noncomputable abbrev ev (n : Nat) : Ev:=evN fnT methT iniT excT isB isC n
end Mp
end
section
open PySem PySem.W PySem.Calls
namespace Mp
open PySem (Expr Stmt Str Value Addr Obj Heap Shared Around World Program Sem Env Scope Arguments FuncBody FuncData Pos)
noncomputable def tyName : Nat→String
 | 0=>"int" | 1=>"bool" | 2=>"bytes" | 3=>"range" | 4=>"enumerate" | _=>"list"
noncomputable def bltName : Nat→String
 | 0=>"len" | 1=>"isinstance" | 2=>"abs" | 3=>"max" | 4=>"min" | _=>"sorted"
noncomputable def freeNames (sc : Scope) : List Str:=sc.names.filterMap fun p=>if p.2 == .free then some p.1 else none
noncomputable def cellNames (sc : Scope) : List Str:=sc.names.filterMap fun p=>if p.2 == .cell then some p.1 else none
noncomputable def localNames (sc : Scope) : List Str:=sc.names.filterMap fun p=>if p.2 == .local then some p.1 else none
noncomputable def celNames (sc : Scope) : List Str:=cellNames sc ++ freeNames sc
noncomputable def opOf : Bop→PySem.Operator | .add=>.Add | .sub=>.Sub | .mul=>.Mult | .div=>.FloorDiv | .mod=>.Mod
noncomputable def cmpOf : Cop→PySem.CmpOp | .lt=>.Lt | .le=>.LtE | .gt=>.Gt | .ge=>.GtE | .eq=>.Eq | .ne=>.NotEq | .is=>.Is | .isnt=>.IsNot
noncomputable def prName : Nat→String | 0=>"NoneType" | 1=>"bool" | 2=>"int" | _=>"bytes"
noncomputable def notStar (e : Expr) : Bool:=!(Nat.beq e.ctorIdx 22)
noncomputable def notAttr (e : Expr) : Bool:=!(Nat.beq e.ctorIdx 20)
noncomputable def notCall (e : Expr) : Bool:=!(Nat.beq e.ctorIdx 16)
noncomputable def notSlice (e : Expr) : Bool:=!(Nat.beq e.ctorIdx 26)
noncomputable def notSet (e : Expr) : Bool:=!(Nat.beq e.ctorIdx 7 || Nat.beq e.ctorIdx 24 || Nat.beq e.ctorIdx 25)
noncomputable def bltMn : Nat→Str
 | 1000=>"append" | 1001=>"pop" | 1002=>"join" | 1003=>"split" | 1004=>"encode" | _=>""
noncomputable def notComp (e : Expr) : Bool:=!(Nat.beq e.ctorIdx 8 || Nat.beq e.ctorIdx 9 || Nat.beq e.ctorIdx 10)
noncomputable def isLoc : T→Bool
 | .loc _=>true
 | _=>false
noncomputable abbrev bmE : List Value:=[.type "Exception",.type "BaseException",.type "object"]
noncomputable def faTab : List Nat:=[21,36,43,50,71,84,91,98,105,112,119,126,133,140,147,154,161,168,175,182,196,203,210,217,224,231,252,266,273,280,294,315,322,329,336,343,350,357,364,371,378,385,392,399,406,413,420,427,434,441,448,462,469,476,483,490,497,504,511,518,525,532,539,546,553,560,567,574,581,588,595,602,607,614,621,628,635,642,649,656,663,670,677,684,691,698,705,712,719,726,731,736,741,748,755,762,769,776,783,790,797,802,809,814,821,828,835]
noncomputable def faT (k : Nat) : Addr:=(faTab[k]?).getD 0
noncomputable def caTab : List Nat:=[53,74,234,255,297,451]
noncomputable def caT (k : Nat) : Addr:=(caTab[k]?).getD 0
noncomputable def anTab : List Str:=(["append","pop","join","split","encode","width","registers","upvalues","local_names","ccalls","frames","stack","flush","steps","text","value","trace","is_in_handler","number","keys","values","meta","find","get","name","work","cells","extra","line","deep","limits","chunk","out","made","texts","fail","where","call","call_other","call_host","handler","fail_type","tick","go_deeper","complain","length","set","less","call_handler","cut_frames"] : List String).map Str.ofString
noncomputable def anT (m : Nat) : Str:=(anTab[m]?).getD ⟨#[m]⟩
noncomputable def tabT : List (Addr × Addr):=[(782,778),(813,811),(827,823)]
noncomputable def glK (K : Frag) (nm : Str) : Option Value:=match nsIn K mainGlobals nm with
 | some (some v)=>some v
 | some none=>(match nsIn K builtinsNs nm with
  | some (some v)=>some v
  | _=>none)
 | none=>none
noncomputable def vNone (c : Value) (f : Bool) : Bool:=if h : c.ctorIdx = 0 then Value.none.elim (motive:=fun _=>Bool) c h (f) else false
noncomputable def vBool (c : Value) (f : Bool→Bool) : Bool:=if h : c.ctorIdx = 3 then Value.bool.elim (motive:=fun _=>Bool) c h (fun b=>f b) else false
noncomputable def vInt (c : Value) (f : Int→Bool) : Bool:=if h : c.ctorIdx = 4 then Value.int.elim (motive:=fun _=>Bool) c h (fun i _=>f i) else false
noncomputable def vType (c : Value) (f : String→Bool) : Bool:=if h : c.ctorIdx = 8 then Value.type.elim (motive:=fun _=>Bool) c h (fun n=>f n) else false
noncomputable def vBlt (c : Value) (f : String→Bool) : Bool:=if h : c.ctorIdx = 9 then Value.builtin.elim (motive:=fun _=>Bool) c h (fun n=>f n) else false
noncomputable def vRef (c : Value) (f : Addr→Bool) : Bool:=if h : c.ctorIdx = 10 then Value.ref.elim (motive:=fun _=>Bool) c h (fun a=>f a) else false
noncomputable def chkV (v : V) (c : Value) : Bool:=match v with
 | .none=>vNone c true
 | .bool b=>vBool c fun x=>b == x
 | .int i=>vInt c fun j=>decide (i = j)
 | .fn k=>vRef c fun a=>Nat.beq a (faT k)
 | .cls k=>vRef c fun a=>Nat.beq a (caT k)
 | .ty k=>vType c fun n=>n == tyName k
 | .blt k=>vBlt c fun n=>n == bltName k
 | .bytes _=>false
 | .str _=>false
 | .ref _=>false
noncomputable abbrev Lam:=Nat × Arguments × FuncBody × Scope
noncomputable abbrev Ob:=Option (List Lam)
noncomputable def Ob.and (x y : Ob) : Ob:=match x with
 | some a=>(match y with
  | some b=>some (a ++ b)
  | none=>none)
 | none=>none
noncomputable def gd (b : Bool) : Ob:=if b then some [] else none
noncomputable def chkL {α β : Type} (f : α→β→Ob) : List α→List β→Ob
 | [],[]=>some []
 | a :: r,b :: t=>(f a b).and (chkL f r t)
 | _,_=>none
noncomputable def nameAt (l : List Str) (x : Nat) (nm : Str) : Bool:=match l[x]? with
 | some y=>decide (y = nm)
 | none=>false
noncomputable def capsOk (sc lsc : Scope) : List Nat→List Str→Bool
 | [],[]=>true
 | j :: c,x :: l=>nameAt (celNames sc) j x && capsOk sc lsc c l
 | _,_=>false
noncomputable def isOp (o : Bop) (p : PySem.Operator) : Bool:=decide (p = opOf o)
noncomputable def isCo (o : Cop) (p : PySem.CmpOp) : Bool:=decide (p = cmpOf o)
noncomputable def plainNm (nm : Str) : Bool:=!(nm == ("__debug__" : Str)) && !(nm == ("__classdict__" : Str))
noncomputable def tabOf (K : Frag) (cdv : Value) : Option (Addr × Addr):=match cdv with
 | .ref cd=>(match tabT.lookup cd with
  | some P=>if codeHdIn K cd P then some (cd,P) else none
  | none=>none)
 | _=>none
noncomputable def mnT (m : Nat) : Str:=if m < 60 then anT m else bltMn m
noncomputable def chkO (f : E→Expr→Ob) : Option E→Option Expr→Ob
 | none,none=>some []
 | some a,some b=>f a b
 | _,_=>none
noncomputable def chkC (f : E→Expr→Ob) : Option E→List Expr→Ob
 | none,[]=>some []
 | some a,[b]=>f a b
 | _,_=>none
noncomputable def onConst (pe : Expr) (f : (PySem.Const)→Ob) : Ob:=if h : pe.ctorIdx = 19 then Expr.Constant.elim (motive_1:=fun _=>Ob) pe h (fun c _ _=>f c) else none
noncomputable def onName (pe : Expr) (f : (Str)→(Pos)→Ob) : Ob:=if h : pe.ctorIdx = 23 then Expr.Name.elim (motive_1:=fun _=>Ob) pe h (fun nm p=>f nm p) else none
noncomputable def onUn (pe : Expr) (f : (PySem.UnaryOp)→(Expr)→Ob) : Ob:=if h : pe.ctorIdx = 3 then Expr.UnaryOp.elim (motive_1:=fun _=>Ob) pe h (fun o a _=>f o a) else none
noncomputable def onBoolOp (pe : Expr) (f : (PySem.BoolOp)→(List Expr)→Ob) : Ob:=if h : pe.ctorIdx = 0 then Expr.BoolOp.elim (motive_1:=fun _=>Ob) pe h (fun o a _=>f o a) else none
noncomputable def onIf (pe : Expr) (f : (Expr)→(Expr)→(Expr)→Ob) : Ob:=if h : pe.ctorIdx = 5 then Expr.IfExp.elim (motive_1:=fun _=>Ob) pe h (fun a b c _=>f a b c) else none
noncomputable def onBin (pe : Expr) (f : (Expr)→(PySem.Operator)→(Expr)→Ob) : Ob:=if h : pe.ctorIdx = 2 then Expr.BinOp.elim (motive_1:=fun _=>Ob) pe h (fun a o b _=>f a o b) else none
noncomputable def onCmp (pe : Expr) (f : (Expr)→(List PySem.CmpOp)→(List Expr)→Ob) : Ob:=if h : pe.ctorIdx = 15 then Expr.Compare.elim (motive_1:=fun _=>Ob) pe h (fun a o b _=>f a o b) else none
noncomputable def onCall (pe : Expr) (f : (Expr)→(List Expr)→(List PySem.Keyword)→(Pos)→Ob) : Ob:=if h : pe.ctorIdx = 16 then Expr.Call.elim (motive_1:=fun _=>Ob) pe h (fun a b k p=>f a b k p) else none
noncomputable def onAttr (pe : Expr) (f : (Expr)→(Str)→(Pos)→Ob) : Ob:=if h : pe.ctorIdx = 20 then Expr.Attribute.elim (motive_1:=fun _=>Ob) pe h (fun a nm p=>f a nm p) else none
noncomputable def onList (pe : Expr) (f : (List Expr)→Ob) : Ob:=if h : pe.ctorIdx = 24 then Expr.List.elim (motive_1:=fun _=>Ob) pe h (fun a _=>f a) else none
noncomputable def onTuple (pe : Expr) (f : (List Expr)→Ob) : Ob:=if h : pe.ctorIdx = 25 then Expr.Tuple.elim (motive_1:=fun _=>Ob) pe h (fun a _ _=>f a) else none
noncomputable def onDict (pe : Expr) (f : (List (Option Expr))→(List Expr)→Ob) : Ob:=if h : pe.ctorIdx = 6 then Expr.Dict.elim (motive_1:=fun _=>Ob) pe h (fun a b _=>f a b) else none
noncomputable def onSub (pe : Expr) (f : (Expr)→(Expr)→Ob) : Ob:=if h : pe.ctorIdx = 21 then Expr.Subscript.elim (motive_1:=fun _=>Ob) pe h (fun a b _=>f a b) else none
noncomputable def onSlice (pe : Expr) (f : (Option Expr)→(Option Expr)→(Option Expr)→Ob) : Ob:=if h : pe.ctorIdx = 26 then Expr.Slice.elim (motive_1:=fun _=>Ob) pe h (fun a b c _=>f a b c) else none
noncomputable def onLam (pe : Expr) (f : (Arguments)→(Expr)→(Scope)→Ob) : Ob:=if h : pe.ctorIdx = 4 then Expr.Lambda.elim (motive_1:=fun _=>Ob) pe h (fun a b s _=>f a b s) else none
noncomputable def onComp (pe : Expr) (f : (Expr)→(List PySem.Comprehension)→(Scope)→Ob) : Ob:=if h : pe.ctorIdx = 8 then Expr.ListComp.elim (motive_1:=fun _=>Ob) pe h (fun a b s _=>f a b s) else none
noncomputable def onExpr (pe : Stmt) (f : (Expr)→Ob) : Ob:=if h : pe.ctorIdx = 24 then Stmt.Expr.elim (motive_2:=fun _=>Ob) pe h (fun a _=>f a) else none
noncomputable def onAssign (pe : Stmt) (f : (List Expr)→(Expr)→Ob) : Ob:=if h : pe.ctorIdx = 5 then Stmt.Assign.elim (motive_2:=fun _=>Ob) pe h (fun a b _=>f a b) else none
noncomputable def onAug (pe : Stmt) (f : (Expr)→(PySem.Operator)→(Expr)→Ob) : Ob:=if h : pe.ctorIdx = 7 then Stmt.AugAssign.elim (motive_2:=fun _=>Ob) pe h (fun a o b _=>f a o b) else none
noncomputable def onIfS (pe : Stmt) (f : (Expr)→(List Stmt)→(List Stmt)→Ob) : Ob:=if h : pe.ctorIdx = 12 then Stmt.If.elim (motive_2:=fun _=>Ob) pe h (fun a b c _=>f a b c) else none
noncomputable def onWhile (pe : Stmt) (f : (Expr)→(List Stmt)→(List Stmt)→Ob) : Ob:=if h : pe.ctorIdx = 11 then Stmt.While.elim (motive_2:=fun _=>Ob) pe h (fun a b c _=>f a b c) else none
noncomputable def onFor (pe : Stmt) (f : (Expr)→(Expr)→(List Stmt)→(List Stmt)→Ob) : Ob:=if h : pe.ctorIdx = 9 then Stmt.For.elim (motive_2:=fun _=>Ob) pe h (fun a i b c _=>f a i b c) else none
noncomputable def onReturn (pe : Stmt) (f : (Option Expr)→Ob) : Ob:=if h : pe.ctorIdx = 3 then Stmt.Return.elim (motive_2:=fun _=>Ob) pe h (fun a _=>f a) else none
noncomputable def onRaise (pe : Stmt) (f : (Option Expr)→(Option Expr)→Ob) : Ob:=if h : pe.ctorIdx = 16 then Stmt.Raise.elim (motive_2:=fun _=>Ob) pe h (fun a b _=>f a b) else none
noncomputable def onTry (pe : Stmt) (f : (List Stmt)→(List PySem.ExceptHandler)→(List Stmt)→(List Stmt)→Ob) : Ob:=if h : pe.ctorIdx = 17 then Stmt.Try.elim (motive_2:=fun _=>Ob) pe h (fun a b c d _=>f a b c d) else none
noncomputable def onBreak (pe : Stmt) (f : Ob) : Ob:=if h : pe.ctorIdx = 26 then Stmt.Break.elim (motive_2:=fun _=>Ob) pe h (fun _=>f) else none
noncomputable def onPass (pe : Stmt) (f : Ob) : Ob:=if h : pe.ctorIdx = 25 then Stmt.Pass.elim (motive_2:=fun _=>Ob) pe h (fun _=>f) else none
noncomputable def onFn (pe : Stmt) (f : (Arguments)→(List Stmt)→(List Expr)→(Option Expr)→(List PySem.TypeParam)→(Scope)→(Str)→Ob) : Ob:=if h : pe.ctorIdx = 0 then Stmt.FunctionDef.elim (motive_2:=fun _=>Ob) pe h (fun _ a b d r tp s _ nm _=>f a b d r tp s nm) else none
noncomputable def cBool (pe : PySem.Const) (f : (Bool)→Ob) : Ob:=if h : pe.ctorIdx = 1 then PySem.Const.bool.elim (motive:=fun _=>Ob) pe h (fun b=>f b) else none
noncomputable def cInt (pe : PySem.Const) (f : (Int)→Ob) : Ob:=if h : pe.ctorIdx = 2 then PySem.Const.int.elim (motive:=fun _=>Ob) pe h (fun b=>f b) else none
noncomputable def cStr (pe : PySem.Const) (f : (Str)→Ob) : Ob:=if h : pe.ctorIdx = 5 then PySem.Const.str.elim (motive:=fun _=>Ob) pe h (fun b=>f b) else none
noncomputable def cBytes (pe : PySem.Const) (f : (List UInt8)→Ob) : Ob:=if h : pe.ctorIdx = 6 then PySem.Const.bytes.elim (motive:=fun _=>Ob) pe h (fun b=>f b) else none
noncomputable def cNone (pe : PySem.Const) (f : Ob) : Ob:=if h : pe.ctorIdx = 0 then PySem.Const.none.elim (motive:=fun _=>Ob) pe h (f) else none
noncomputable def on1 {α : Type} (l : List α) (f : α→Ob) : Ob:=match l with
 | [a]=>f a
 | _=>none
noncomputable def onNil {α : Type} (l : List α) (x : Ob) : Ob:=match l with
 | []=>x
 | _=>none
noncomputable def onSome {α : Type} (l : Option α) (f : α→Ob) : Ob:=match l with
 | some a=>f a
 | none=>none
noncomputable def onNone {α : Type} (l : Option α) (x : Ob) : Ob:=match l with
 | none=>x
 | some _=>none
noncomputable def onHd (h : PySem.ExceptHandler) (f : Option Expr→Option Str→List Stmt→Ob) : Ob:=match h with
 | .ExceptHandler a b c _=>f a b c
noncomputable def chkCst (v : V) (c : PySem.Const) : Ob:=match v with
 | .none=>cNone c (some [])
 | .bool b=>cBool c fun x=>gd (b == x)
 | .int i=>cInt c fun x=>gd (decide (i = x))
 | .bytes l=>cBytes c fun bs=>gd (decide (bs.map UInt8.toNat = l) && Nat.ble bs.length 1000)
 | .str l=>cStr c fun x=>gd (decide (x.cps.toList = l))
 | .ref _=>none
 | .fn _=>none
 | .cls _=>none
 | .ty _=>none
 | .blt _=>none
noncomputable def chkE (K : Frag) (cdv : Value) : Nat→Scope→E→Expr→Ob
 | 0,_,_,_=>none
 | n + 1,sc,e,pe=>match e with
  | .oth=>some []
  | .cst v=>onConst pe (chkCst v)
  | .loc x=>onName pe fun nm _=>gd (nameAt (localNames sc) x nm && plainNm nm)
  | .cel x=>onName pe fun nm _=>gd (nameAt (celNames sc) x nm && plainNm nm)
  | .glo v=>onName pe fun nm _=>onSome (glK K nm) fun cv=>gd (chkV v cv && decide ((nm,PySem.NameKind.globalImplicit) ∈ sc.names) && plainNm nm)
  | .not a=>onUn pe fun o pa=>(gd (decide (o = .Not))).and (chkE K cdv n sc a pa)
  | .neg a=>onUn pe fun o pa=>(gd (decide (o = .USub))).and (chkE K cdv n sc a pa)
  | .and as=>onBoolOp pe fun o pas=>(gd (decide (o = .And))).and (chkL (chkE K cdv n sc) as pas)
  | .or as=>onBoolOp pe fun o pas=>(gd (decide (o = .Or))).and (chkL (chkE K cdv n sc) as pas)
  | .ite c a b=>onIf pe fun pc pa pb=>(chkE K cdv n sc c pc).and ((chkE K cdv n sc a pa).and (chkE K cdv n sc b pb))
  | .bin o a b=>onBin pe fun pa po pb=>(gd (isOp o po)).and ((chkE K cdv n sc a pa).and (chkE K cdv n sc b pb))
  | .cmp o a b=>onCmp pe fun pa pos pbs=>on1 pos fun po=>on1 pbs fun pb=>(gd (isCo o po && !PySem.behindInMarks (cmpOf o) pb)).and ((chkE K cdv n sc a pa).and (chkE K cdv n sc b pb))
  | .call f as=>onCall pe fun pf pas ks _=>onNil ks ((gd (notAttr pf && pas.all notStar && Nat.ble pas.length 100)).and ((chkE K cdv n sc f pf).and (chkL (chkE K cdv n sc) as pas)))
  | .meth o m as=>onCall pe fun pf pas ks p=>onNil ks (onAttr pf fun po nm ap=>(gd (decide (nm = mnT m) && notCall po && pas.all notStar && Nat.ble pas.length 20 && (ap.endLine == p.line))).and ((chkE K cdv n sc o po).and (chkL (chkE K cdv n sc) as pas)))
  | .attr o m=>onAttr pe fun po nm _=>(gd (decide (nm = anT m) && notCall po)).and (chkE K cdv n sc o po)
  | .lst as=>onList pe fun pas=>(gd (pas.all notStar && Nat.ble pas.length 1000)).and (chkL (chkE K cdv n sc) as pas)
  | .tup as=>onTuple pe fun pas=>(gd (pas.all notStar && Nat.ble pas.length 1000)).and (chkL (chkE K cdv n sc) as pas)
  | .dic=>onDict pe fun a b=>onNil a (onNil b (some []))
  | .sub o i=>onSub pe fun po pi=>(gd (notSlice pi)).and ((chkE K cdv n sc o po).and (chkE K cdv n sc i pi))
  | .slc o lo hi=>onSub pe fun po pi=>onSlice pi fun plo phi ps=>onNone ps ((chkE K cdv n sc o po).and ((chkO (chkE K cdv n sc) lo plo).and (chkO (chkE K cdv n sc) hi phi)))
  | .lam k c=>onLam pe fun a b s=>(gd (isC k && a.defaults.isEmpty && a.kw_defaults.isEmpty && capsOk sc s c (freeNames s) && (tabOf K cdv).isSome)).and (some [(k,a,.expr b,s)])
  | .comp elt x nl c it cond=>onComp pe fun pelt gs csc=>on1 gs fun g=>onName g.target fun nm _=>(gd (decide (csc.kind = .function) && decide ((csc.names.map (·.1)).Nodup) && (cellNames csc).isEmpty && nameAt (localNames csc) x nm && Nat.beq (localNames csc).length nl && capsOk sc csc c (freeNames csc) && notSet g.iter && decide (g.is_async = 0))).and
     ((chkE K cdv n sc it g.iter).and ((chkE K cdv n csc elt pelt).and (chkC (chkE K cdv n csc) cond g.ifs)))
noncomputable def noPos : Pos:=⟨0,0,0,0⟩
noncomputable def chkT (K : Frag) (cdv : Value) (n : Nat) (sc : Scope) (t : T) (pt : Expr) : Ob:=match t with
 | .loc x=>onName pt fun nm _=>gd (nameAt (localNames sc) x nm)
 | .cel x=>onName pt fun nm _=>gd (nameAt (celNames sc) x nm && decide ((nm,PySem.NameKind.cell) ∈ sc.names))
 | .attr o m=>onAttr pt fun po nm _=>(gd (decide (nm = anT m))).and (chkE K cdv n sc o po)
 | .sub o i=>onSub pt fun po pi=>(gd (notSlice pi)).and ((chkE K cdv n sc o po).and (chkE K cdv n sc i pi))
 | .oth=>none
noncomputable def isCel : T→Bool
 | .cel _=>true
 | _=>false
noncomputable def onLoc (t : T) (f : Nat→Ob) : Ob:=if h : t.ctorIdx = 0 then T.loc.elim (motive:=fun _=>Ob) t h f else none
noncomputable def on2 {α : Type} (l : List α) (f : α→α→Ob) : Ob:=match l with
 | []=>none
 | a :: t=>on1 t (f a)
noncomputable def chkTwo (sc : Scope) (ts : List T) (pts : List Expr) (pe : Expr) : Ob:=on2 ts fun t1 t2=>onLoc t1 fun a=>onLoc t2 fun b=>on2 pts fun p1 p2=>onName p1 fun na pa=>onName p2 fun nb pb=>onTuple pe fun vs=>on2 vs fun v1 v2=>
 gd (nameAt (localNames sc) a na && nameAt (localNames sc) b nb && !decide (na = nb) && Nat.beq pa.line pb.line && (notStar v1 && notStar v2) && !(PySem.foldedForSure 8 v1 && PySem.foldedForSure 8 v2) && !(PySem.constantsAlone 8 v1 && PySem.constantsAlone 8 v2))
noncomputable def chkFo (K : Frag) (cdv : Value) (n : Nat) (sc : Scope) (ts : List T) (pt : Expr) : Ob:=match ts with
 | []=>none
 | t :: r=>onLoc t fun x=>(match r with
  | []=>onName pt fun nm _=>gd (nameAt (localNames sc) x nm)
  | u :: r'=>onNil r' (onLoc u fun y=>onTuple pt fun pts=>chkL (chkT K cdv n sc) [.loc x,.loc y] pts))
noncomputable def onAttrE (e : E) (f : E→Nat→Ob) : Ob:=if h : e.ctorIdx = 14 then E.attr.elim (motive_1:=fun _=>Ob) e h f else none
noncomputable def onLocE (e : E) (f : Nat→Ob) : Ob:=if h : e.ctorIdx = 2 then E.loc.elim (motive_1:=fun _=>Ob) e h f else none
noncomputable def onAt (h : E) (f : Nat→Nat→Ob) : Ob:=onAttrE h fun e m=>onLocE e fun x=>f x m
noncomputable def plainArgs (a : Arguments) : Bool:=a.posonlyargs.isEmpty && a.vararg.isNone && a.kwonlyargs.isEmpty && a.kw_defaults.isEmpty && a.kwarg.isNone && a.defaults.isEmpty
noncomputable def onRet1 (b : List Stmt) (f : Expr→Ob) : Ob:=on1 b fun r=>onReturn r fun o=>onSome o f
noncomputable def onHd1 (hs : List PySem.ExceptHandler) (f : Str→Pos→Str→List Stmt→Ob) : Ob:=on1 hs fun hd=>onHd hd fun ct onm hb=>onSome ct fun cx=>onName cx fun cnm cp=>onSome onm fun nm=>f cnm cp nm hb
noncomputable def onNA (ra : Expr) (f : Str→Str→Ob) : Ob:=onAttr ra fun rb an _=>onName rb fun nm _=>f nm an
noncomputable def chkS (K : Frag) (cdv : Value) (sc : Scope) : Nat→S→Stmt→Ob
 | 0,_,_=>none
 | n + 1,s,ps=>match s with
  | .oth=>some []
  | .ex e=>onExpr ps fun pe=>(gd (notComp pe)).and (chkE K cdv n sc e pe)
  | .asg t e=>onAssign ps fun pts pe=>on1 pts fun pt=>(gd (notComp pe || isCel t)).and ((chkE K cdv n sc e pe).and (chkT K cdv n sc t pt))
  | .asgT ts e=>onAssign ps fun p pe=>on1 p fun pt=>onTuple pt fun pts=>if (ts.any (fun t=>!isLoc t) || Nat.blt 3 ts.length) = true then (gd (notComp pe)).and ((chkL (chkT K cdv n sc) ts pts).and (chkE K cdv n sc e pe)) else (chkTwo sc ts pts pe).and (chkE K cdv n sc e pe)
  | .augL x o e=>onAug ps fun pt po pe=>onName pt fun nm _=>(gd (nameAt (localNames sc) x nm && isOp o po)).and (chkE K cdv n sc e pe)
  | .augA b m o e=>onAug ps fun pt po pe=>onAttr pt fun pb nm _=>(gd (decide (nm = anT m) && isOp o po)).and ((chkE K cdv n sc b pb).and (chkE K cdv n sc e pe))
  | .ite c a b=>onIfS ps fun pc pa pb=>(chkE K cdv n sc c pc).and ((chkL (chkS K cdv sc n) a pa).and (chkL (chkS K cdv sc n) b pb))
  | .wh c b=>onWhile ps fun pc pb z=>onNil z ((chkE K cdv n sc c pc).and (chkL (chkS K cdv sc n) b pb))
  | .fo ts it b=>onFor ps fun pt pit pb z=>onNil z ((gd (notSet pit)).and ((chkE K cdv n sc it pit).and ((chkL (chkS K cdv sc n) b pb).and (chkFo K cdv n sc ts pt))))
  | .ret e=>onReturn ps fun o=>onSome o fun pe=>chkE K cdv n sc e pe
  | .raise e=>onRaise ps fun o z=>onSome o fun pe=>onNone z (chkE K cdv n sc e pe)
  | .tryx e c x h=>onAt h fun x' m=>onTry ps fun b hs z1 z2=>onNil z1 (onNil z2 (onRet1 b fun pe=>onHd1 hs fun cnm cp nm hb=>onRet1 hb fun ra=>onNA ra fun nm' an'=>
     (gd (Nat.beq c 1 && nameAt (localNames sc) x nm && nameAt (localNames sc) x' nm' && plainNm nm' && decide (an' = anT m))).and ((chkE K cdv n sc e pe).and (chkE K cdv n sc (.glo (.cls c)) (.Name cnm cp)))))
  | .brk=>onBreak ps (some [])
  | .pass=>onPass ps (some [])
  | .defn t k c=>onFn ps fun a body d r tp lsc bind=>onNil d (onNone r (onNil tp ((gd (isC k && a.args.all (fun x=>x.annotation.isNone) && capsOk sc lsc c (freeNames lsc) && (tabOf K cdv).isSome && plainArgs a)).and ((chkT K cdv n sc t (.Name bind noPos)).and (some [(k,a,.stmts body,lsc)])))))
noncomputable def codT (k : Nat) : Value:=if Nat.beq k 98 then .ref 782 else if Nat.beq k 103 then .ref 813 else if Nat.beq k 105 then .ref 827 else .none
noncomputable def fdK (K : Frag) (k : Nat) : Option FuncData:=match K.lookup (faT k) with
 | some ⟨_,_,.func fd,_⟩=>some fd
 | _=>none
noncomputable def chkB (K : Frag) (cdv : Value) (sc : Scope) (b : List S ⊕ E) (pb : FuncBody) : Ob:=match b,pb with
 | .inl b,.stmts pb=>chkL (chkS K cdv sc 60) b pb
 | .inr e,.expr pe=>chkE K cdv 60 sc e pe
 | _,_=>none
noncomputable def chkFd (K : Frag) (k : Nat) : Ob:=match fdK K k with
 | some fd=>chkB K (codT k) fd.scope (fnT k).body fd.body
 | none=>none
noncomputable def tabL : List Addr:=[778,811,823]
noncomputable def subK (K : Frag) : Frag:=K.filter fun p=>!(tabL.contains p.1)
noncomputable def ar0 : Arguments:=⟨[],[],none,[],[],none,[]⟩
noncomputable def sc0 : Scope:=⟨.function,[],false,false,[]⟩
noncomputable def lam0 : Lam:=(0,ar0,.stmts [],sc0)
noncomputable def lamAll (K : Frag) : List Lam:=((chkFd K 98).getD []) ++ (((chkFd K 103).getD []) ++ ((chkFd K 105).getD []))
noncomputable def lamAt (K : Frag) (k : Nat) : Lam:=((lamAll K).find? fun q=>Nat.beq q.1 k).getD lam0
noncomputable def parK (K : Frag) (k : Nat) : Arguments:=if Nat.blt k 107 then (match fdK K k with | some fd=>fd.params | none=>ar0) else (lamAt K k).2.1
noncomputable def bodK (K : Frag) (k : Nat) : FuncBody:=if Nat.blt k 107 then (match fdK K k with | some fd=>fd.body | none=>.stmts []) else (lamAt K k).2.2.1
noncomputable def scoK (K : Frag) (k : Nat) : Scope:=if Nat.blt k 107 then (match fdK K k with | some fd=>fd.scope | none=>sc0) else (lamAt K k).2.2.2
noncomputable def tyL : List V:=[.ty 0,.ty 1,.ty 2,.cls 0,.cls 1,.cls 2,.cls 3,.cls 4,.cls 5]
noncomputable def tyVT : V→Value | .ty k=>.type (tyName k) | .cls c=>.ref (caT c) | _=>.none
noncomputable def c5 : List Nat:=[0,2,3,4,5]
noncomputable def c6 : List Nat:=[0,1,2,3,4,5]
noncomputable def gp1 (K : Frag) : Bool:=([0,1,2,3].all fun k=>tyL.all fun t=>match isPr k t with | some b=>kitOne K (.type (prName k)) (tyVT t) == some b | none=>true)
noncomputable def gp2 (K : Frag) : Bool:=(c5.all fun c=>tyL.all fun t=>match isOf c t with | some b=>kitOne K (.ref (caT c)) (tyVT t) == some b | none=>true)
noncomputable def gp3 (K : Frag) : Bool:=(c5.all fun c=>plainGet K (caT c) "__class__" && hasDictIn K (caT c) && (findIn K (.ref (caT c)) "__class__" == some (some (.builtin "object.__class__"))) && (mroIn K (caT c) (.type "object") == some true))
noncomputable def gp4 (K : Frag) : Bool:=(c5.all fun c=>(findIn K (.ref (caT c)) "__setattr__" == some (some (.builtin "object.__setattr__"))) && plainOver K (caT c))
noncomputable def gp5 (K : Frag) : Bool:=(c5.all fun c=>(findIn K (.ref (caT c)) "__getattribute__" == some (some (.builtin "object.__getattribute__"))) && (findIn K (.ref (caT c)) "__getattr__" == some none))
noncomputable def gp6 (K : Frag) : Bool:=(c6.all fun c=>(List.range 60).all fun m=>!(okA methT c m) || (findIn K (.ref (caT c)) (anT m) == some none))
noncomputable def gp7 (K : Frag) : Bool:=(c6.all fun c=>((methTab[c]?).getD []).all fun p=>(findIn K (.ref (caT c)) (anT p.1) == some (some (.ref (faT p.2)))) && (typeIn K (.ref (faT p.2)) == some (.type "function")))
noncomputable def gp8 (K : Frag) : Bool:=((specialIn K (.builtin "object.__class__") "__get__" == some (some (.builtin "getset_descriptor.__get__"))) && (takesIn K (.builtin "object.__class__") == some true))
noncomputable def gp9 (K : Frag) : Bool:=(c5.all fun c=>makesIn K (caT c) && (findIn K (.ref (caT c)) "__init__" == some (some (.ref (faT (iniT c))))) && (typeIn K (.ref (faT (iniT c))) == some (.type "function")))
noncomputable def gp10 (K : Frag) : Bool:=(c6.all fun c=>keepIn K (.ref (caT c)))
noncomputable def gp11 (K : Frag) : Bool:=((typeIn K (.ref (caT 1)) == some (.type "type")) && (mroIn K (caT 1) (.type "BaseException") == some true) && (mroIn K (caT 1) (.ref (caT 1)) == some true))
noncomputable def gp12 (K : Frag) : Bool:=((findIn K (.ref (caT 1)) "__getattribute__" == some (some (.builtin "BaseException.__getattribute__"))) && (findIn K (.ref (caT 1)) "__getattr__" == some none) && (findIn K (.ref (caT 1)) "__setattr__" == some (some (.builtin "object.__setattr__"))))
noncomputable def GP (K : Frag) : Bool:=gp1 K && gp2 K && gp3 K && gp4 K && gp5 K && gp6 K && gp7 K && gp8 K && gp9 K && gp10 K && gp11 K && gp12 K
noncomputable def codeIn (K : Frag) (cd : Addr) : Bool:=match K.lookup cd with
 | some o=>(match o.data with
  | .fields vs=>(vs[1]?).isSome
  | _=>false)
 | none=>false
noncomputable def dflIn (K : Frag) (k : Nat) (fd : FuncData) : Bool:=match (fnT k).dfl with
 | []=>fd.defaults == .none
 | ds=>(match fd.defaults with
  | .ref T=>(match K.lookup T with
   | some o=>o.cls == .type "tuple" && (match o.data with
    | .seq vs _=>(chkL (fun v cv=>gd (chkV v cv)) ds vs.toList).isSome && Nat.beq ((fd.params.args.map (·.arg)).length) (ds.length + 1)
    | _=>false)
   | none=>false)
  | _=>false)
noncomputable def fnIn (K : Frag) (k : Nat) : Bool:=match K.lookup (faT k) with
 | some o=>o.cls == .type "function" && (match o.data with
  | .func fd=>Nat.beq fd.globals mainGlobals && Nat.beq fd.builtins builtinsNs && (fd.kwdefaults == .none) && (codT k == .none || fd.code == codT k) && (freeNames fd.scope).isEmpty && (match fd.code with | .ref cd=>codeIn K cd | _=>false) && dflIn K k fd
  | _=>false)
 | none=>false
noncomputable def slotIn : Scope→List (Bool × Nat)→List Str→Bool
 | _,[],[]=>true
 | sc,p :: ps,nm :: nms=>(if p.1 then nameAt (cellNames sc) p.2 nm && decide (sc.names.lookup nm = some .cell) else nameAt (localNames sc) p.2 nm && decide (sc.names.lookup nm = some .local)) && slotIn sc ps nms
 | _,_,_=>false
noncomputable def fnHd (F : Fn) (par : Arguments) (sco : Scope) : Bool:=
 par.posonlyargs.isEmpty && par.kwonlyargs.isEmpty && par.vararg.isNone && par.kwarg.isNone && decide ((par.args.map (·.arg)).Nodup) && slotIn sco F.pars (par.args.map (·.arg)) && Nat.beq (localNames sco).length F.nloc && Nat.beq (cellNames sco).length F.ncell &&
  decide (sco.kind = .function) && !sco.isCoroutine && !sco.isGenerator && decide ((sco.names.map (·.1)).Nodup)
noncomputable def fnAll (K : Frag) : Bool:=(List.range 111).all fun k=>!(isB k || isC k) || (fnHd (fnT k) (parK K k) (scoK K k) && (!isB k || (fnIn K k && Nat.blt k 107)))
noncomputable def lamKeys (K : Frag) : Bool:=decide (((lamAll K).map (·.1)).Nodup) && (lamAll K).all fun q=>isC q.1
noncomputable def bodAll (K : Frag) : Bool:=(List.range 111).all fun k=>!(isB k || isC k) || (match chkB K (codT k) (scoK K k) (fnT k).body (bodK K k) with
 | some l=>l.all (fun q=>Nat.beq k 98 || Nat.beq k 103 || Nat.beq k 105)
 | none=>false)
noncomputable def optB {α : Type} (o : Option α) (f : α→Bool) : Bool:=match o with
 | some a=>f a
 | none=>false
noncomputable def asCls : Data→Option PySem.ClassData
 | .cls c=>some c
 | _=>none
noncomputable def asDict : Data→Option (Array PySem.DictEntry)
 | .dict es _=>some es
 | _=>none
noncomputable def isStrK : Value→Bool
 | .str _ _=>true
 | _=>false
noncomputable def excIn (K : Frag) : Bool:=optB (K.lookup (caT 1)) fun o=>optB (asCls o.data) fun cd=>o.cls == .type "type" && (cd.mro == .ref (caT 1) :: bmE) && cd.hasDict && !cd.hasDel && (Nat.beq o.slots.toList.length 6 && (o.slots.toList[4]? == some (some (.builtin "Exception.__new__")))) &&
 optB (K.lookup cd.ns) fun o=>optB (asDict o.data) fun es=>es.toList.all (fun e=>isStrK e.key) && (nsFind es "__init__" == some (.ref (faT (iniT 1))))
noncomputable def chkAll (K : Frag) : Bool:=GP K && fnAll K && lamKeys K && bodAll K && excIn K
end Mp
end
section
open PySem PySem.W PySem.W.X PyProof.Rows
namespace Mp
open PySem (Expr Stmt Str Value Addr Obj Heap Shared Around World Program Sem Env Scope Arguments FuncBody FuncData Pos)
noncomputable def tab0 (o : Obj) : Bool:=(o.cls == .none) && o.dict.isNone && (match o.data with | .fields v=>v.toList.isEmpty | _=>false) && o.slots.toList.isEmpty
noncomputable def joinOk (K : Frag) (sc : Addr) : Bool:=(K.lookup sc).isNone && (tabT.all fun p=>codeHdIn K p.1 p.2 && (match K.lookup p.2 with | some o=>tab0 o | none=>false))
end Mp
end
section
set_option autoImplicit false
open PySem PySem.W PySem.W.X PyProof.Rows
namespace Mp
noncomputable abbrev pw : Program:=PySem.Challenge.pw_rh0168_01
noncomputable def qv : Program:=view pw [89]
noncomputable def lo : List Str:=pw.boundNames
noncomputable def mkBT (l : List Obj) : BT:=(l.foldl (fun (r : BT × Nat) o=>(r.1.ins r.2 o,r.2 + 1)) (.nil,0)).1
noncomputable def s0T (q : Params) (os : OsState) : SharedT:=⟨mkBT (boot_heap q).objs.toList,(boot_heap q).objs.size,(boot_heap q).life,#[],boot_drawn,boot_toks,os⟩
theorem s0_abs (q : Params) (os : OsState) : (s0T q os).abs = ⟨boot_heap q,#[],boot_drawn,boot_toks,os⟩:=by kernel_rfl
noncomputable def runS (f : SharedT→Thread→Option (SharedT × Thread)) (ok : Thread→Bool) (k : SharedT→Thread→Option SharedT) (s : SharedT) (t : Thread) : Option SharedT:=match through t with
 | true=>some s
 | false=>match ok t with
  | false=>none
  | true=>match f s t with
   | some (s',t')=>k s' t'
   | none=>none
noncomputable def runT (f : SharedT→Thread→Option (SharedT × Thread)) (ok : Thread→Bool) : Nat→SharedT→Thread→Option SharedT
 | 0=>fun _ _=>none
 | n + 1=>runS f ok (runT f ok n)
theorem runT_spec {p : Program} {w : World} {n₀ : Nat} {ann : Option Value} {n : Nat} {s s' : SharedT} {t : Thread} (h : runT (stepT (denote treeTable) p w) (stepOk n₀ ann) n s t = some s') : topRun treeTable p w n₀ ann n s.abs t = some s'.abs:=by
 induction n generalizing s t with
 | zero=>injection h
 | succ n ih=>
  replace h : runS (stepT (denote treeTable) p w) (stepOk n₀ ann) (runT (stepT (denote treeTable) p w) (stepOk n₀ ann) n) s t = some s':=h
  unfold runS at h
  unfold topRun
  induction ht : through t using Bool.casesOn with
  | true=>rw [ht] at h; exact congrArg (Option.map SharedT.abs) h
  | false=>
   rw [ht] at h
   induction hk : stepOk n₀ ann t using Bool.casesOn with
   | false=>rw [hk] at h; injection h
   | true=>
    rw [hk] at h
    induction hs : stepT (denote treeTable) p w s t using Option.casesOn with
    | none=>rw [hs] at h; injection h
    | some r=>rw [hs] at h; dsimp only; rw [stepT_spec (s':=r.1) (t':=r.2) hs]; exact ih h
theorem boot_size (q : Params) : ((boot_heap q).isNs mainGlobals && (#[] : Array GenState).size == 0,(boot_heap q).objs.size,(boot_heap q).nsMap mainGlobals "__annotations__") = (true,11,some (.ref 6)):=by kernel_rfl
theorem left_run {p q : Program} {loose : List Str} {Xt : Shared→Bool} {α : Type} {Yf : Shared→α} {Ya : World→α} {N : Nat}
  (open_ : ∀ w : World,(fencedOpening treeTable p w N).map (fun s=>(s.heap,s.gens,s.drawn,s.toks)) = some (boot_heap w.params,#[],boot_drawn,boot_toks))
  (run : ∀ (w : World) (os : OsState),(runT (stepT (denote treeTable) p w) (stepOk 11 (some (.ref 6))) N (s0T w.params os) (topStub p)).map (fun t=>((staticsOk (importedModules p.main.body) (boot_heap w.params) t.abs.heap && namesBound p t.abs.heap && gensDone t.abs && laidKept (boot_heap w.params) t.abs.heap),openSeen q loose (importedModules p.main.body) Xt true t.abs,Yf t.abs)) = some (true,openGood q loose,Ya w)) : LeftO p q loose Xt Yf Ya N:=fun w=>by
 refine ex1_2 (Option.map_eq_some_iff.mp (open_ w)) fun s e e'=>?_
 obtain ⟨h,gs,d,k,os⟩:=s
 have e1 : h = boot_heap w.params:=congrArg (fun x=>x.1) e'
 have e2 : gs = #[]:=congrArg (fun x=>x.2.1) e'
 have e3 : d = boot_drawn:=congrArg (fun x=>x.2.2.1) e'
 have e4 : k = boot_toks:=congrArg (fun x=>x.2.2.2) e'
 subst e1 e2 e3 e4
 refine ex1_2 (Option.map_eq_some_iff.mp (run w os)) fun t r l=>?_
 have r:=runT_spec r
 rw [s0_abs] at r
 have tf : topFrom treeTable p w N ⟨boot_heap w.params,#[],boot_drawn,boot_toks,os⟩ = some t.abs:=by
  unfold topFrom
  dsimp only
  rw [show ((boot_heap w.params).isNs mainGlobals && (#[] : Array GenState).size == 0) = true from congrArg (fun x=>x.1) (boot_size w.params),show (boot_heap w.params).objs.size = 11 from congrArg (fun x=>x.2.1) (boot_size w.params),show (boot_heap w.params).nsMap mainGlobals "__annotations__" = some (.ref 6) from congrArg (fun x=>x.2.2) (boot_size w.params),r]
  dsimp only [Option.bind_some]
  rw [show (staticsOk (importedModules p.main.body) (boot_heap w.params) t.abs.heap && namesBound p t.abs.heap && gensDone t.abs && laidKept (boot_heap w.params) t.abs.heap) = true from congrArg (fun x=>x.1) l]
 unfold openEnds
 rw [e]
 refine (?_ : ((topFrom treeTable p w N _).map _) = _)
 rw [tf]
 exact congrArg some (congrArg Prod.snd l)
noncomputable def fragFrom : Nat→List Obj→Frag
 | _,[]=>[]
 | n,o :: r=>match alive o with
  | some o'=>(n,o') :: fragFrom (n + 1) r
  | none=>fragFrom (n + 1) r
noncomputable def fragOf (h : Heap) : Frag:=fragFrom 0 h.objs.toList
theorem fragFrom_cons (n : Nat) (x : Obj) (r : List Obj) : fragFrom n (x :: r) = (match alive x with
 | some o'=>(n,o') :: fragFrom (n + 1) r
 | none=>fragFrom (n + 1) r):=rfl
theorem fragFrom_in (l : List Obj) (n a : Nat) (o : Obj) (e : (fragFrom n l).lookup a = some o) : n ≤ a∧∃ o',l[a - n]? = some o'∧alive o' = some o:=by
 induction l generalizing n with
 | nil=>injection e
 | cons x r ih=>
  have step : (fragFrom (n + 1) r).lookup a = some o→n ≤ a∧∃ o',(x :: r)[a - n]? = some o'∧alive o' = some o:=fun e=>by
   have h:=ih (n + 1) e
   refine ⟨Nat.le_of_succ_le h.1,?_⟩
   rw [← Nat.sub_add_cancel (Nat.le_sub_of_add_le' h.1),← Nat.sub_add_eq]
   exact h.2
  rw [fragFrom_cons] at e
  induction ho : alive x using Option.casesOn with
  | none=>rw [ho] at e; exact step e
  | some o'=>
   rw [ho] at e
   replace e : (match a == n with | true=>some o' | false=>(fragFrom (n + 1) r).lookup a) = some o:=e
   induction q : (a == n) using Bool.casesOn with
   | false=>rw [q] at e; exact step e
   | true=>
    rw [q] at e
    have q:=eq_of_beq q
    subst q
    exact ⟨Nat.le_refl _,x,by rw [Nat.sub_self]; rfl,ho.trans e⟩
theorem get_alive {h : Heap} {a : Nat} {o : Obj} (e : h.objs[a]? = some o) : h.get? a = alive o:=by
 unfold Heap.get?
 rw [e]
 obtain ⟨c,d,dt,sl⟩:=o
 induction dt using Data.casesOn <;> rfl
theorem fragOf_in (h : Heap) : (fragOf h).In h:=fun a o e=>
 (fragFrom_in _ _ _ _ e).2.elim fun o' k=>(get_alive (by rw [← Array.getElem?_toList]; exact k.1)).trans k.2
noncomputable def lawIn (K : Frag) : Bool:=nsIn K mainGlobals "law" == some (some (.ref 835))
noncomputable def Y1 (s : Shared) : Bool:=Nat.beq s.heap.objs.size 836 && (lawIn (fragOf s.heap) && joinOk (fragOf s.heap) 836)
noncomputable def Y2 (s : Shared) : Bool:=bodAll (subK (fragOf s.heap))
noncomputable def Y3 (s : Shared) : Bool:=let K:=subK (fragOf s.heap); GP K && fnAll K && lamKeys K && excIn K
noncomputable def Yq (s : Shared) : Bool:=(Y1 s && Y2 s) && Y3 s
noncomputable def endT (w : World) (os : OsState) : Option SharedT:=runT (stepT (denote treeTable) pw w) (stepOk 11 (some (.ref 6))) 9504 (s0T w.params os) (topStub pw)
theorem map_and {α β γ : Type} {o : Option α} {f : α→β} {g : α→γ} {y z : α→Bool} {a : β} {b : γ} (h1 : o.map (fun t=>(f t,g t,y t)) = some (a,b,true)) (h2 : o.map z = some true) : o.map (fun t=>(f t,g t,y t && z t)) = some (a,b,true):=by
 induction o with
 | none=>injection h1
 | some t=>
  have h1:=Option.some.inj h1
  refine congrArg some (?_ : (f t,g t,(y t && z t)) = _)
  rw [show z t = true from Option.some.inj h2,Bool.and_true]
  exact h1
set_option maxHeartbeats 0 in
theorem top1 (w : World) (os : OsState) : (endT w os).map (fun t=>((staticsOk (importedModules pw.main.body) (boot_heap w.params) t.abs.heap && namesBound pw t.abs.heap && gensDone t.abs && laidKept (boot_heap w.params) t.abs.heap),openSeen qv lo (importedModules pw.main.body) (fun _=>true) true t.abs,Y1 t.abs)) = some (true,openGood qv lo,true):=by
 unfold endT
 rw [Fast.te10156331382660048174,Fast.te11892475500146522536,Fast.te14364793385576792824,Fast.te6613529449190102663,Fast.te4187177175401517315]
 kernel_rfl
set_option maxHeartbeats 0 in
theorem top2 (w : World) (os : OsState) : (endT w os).map (fun t=>Y2 t.abs) = some true:=by
 unfold endT
 try rw [Fast.te10156331382660048174]
 try rw [Fast.te11892475500146522536]
 try rw [Fast.te14364793385576792824]
 try rw [Fast.te6613529449190102663]
 try rw [Fast.te4187177175401517315]
 kernel_rfl
set_option maxHeartbeats 0 in
theorem top3 (w : World) (os : OsState) : (endT w os).map (fun t=>Y3 t.abs) = some true:=by
 unfold endT
 try rw [Fast.te10156331382660048174]
 try rw [Fast.te11892475500146522536]
 try rw [Fast.te14364793385576792824]
 try rw [Fast.te6613529449190102663]
 try rw [Fast.te4187177175401517315]
 kernel_rfl
theorem left : LeftO pw qv lo (fun _=>true) Yq (fun _=>true) 9504:=
 left_run (boot_open (by kernel_rfl) (by decide) fun s=>rfl) fun w os=>map_and (map_and (top1 w os) (top2 w os)) (top3 w os)
set_option maxHeartbeats 0 in
theorem said : PySem.Challenge.rw_rh0168_01.wellSaid = true:=by
 rw [Fast.te9446332074065402090]
 refine look_both (look_both (look_both (look_both (look_both (look_both (look_both (look_both (look_both ?_ ?_) ?_) ?_) ?_) ?_) ?_) ?_) ?_) ?_
 all_goals as_aux_lemma=>kernel_rfl
end Mp
end
section
open PySem PySem.W PySem.Calls
set_option autoImplicit false
namespace Mp
open PySem (Expr Stmt Str Value Addr Obj Heap Shared Around World Program Sem Env Scope Arguments FuncBody FuncData Pos)
section
structure Cx where
 K : Frag
 prog : Program
 w : World
 base : Heap
 tabs : List Addr
 fa : Nat→Addr
 ca : Nat→Addr
 an : Nat→Str
 par : Nat→Arguments
 bod : Nat→FuncBody
 sco : Nat→Scope
 cod : Nat→Value
 mg : Str→Option Value
 mb : Str→Option Value
 fzo : Obj
variable {C : Cx}
inductive VR (C : Cx) (φ : Nat→Addr) (N : Nat) : V→Value→Prop
 | none : VR C φ N .none .none
 | bool (b : Bool) : VR C φ N (.bool b) (.bool b)
 | int (i : Int) (t : Nat) : VR C φ N (.int i) (.int i t)
 | bytes (b : Array UInt8) (t : Nat) : b.size ≤ sizeLine→VR C φ N (.bytes (b.toList.map UInt8.toNat)) (.bytes b t)
 | str (s : Str) (t : Nat) : VR C φ N (.str s.cps.toList) (.str s t)
 | ref (n : Nat) : n < N→VR C φ N (.ref n) (.ref (φ n))
 | fn (k : Nat) : VR C φ N (.fn k) (.ref (C.fa k))
 | cls (k : Nat) : VR C φ N (.cls k) (.ref (C.ca k))
 | ty (k : Nat) : VR C φ N (.ty k) (.type (tyName k))
 | blt (k : Nat) : VR C φ N (.blt k) (.builtin (bltName k))
noncomputable abbrev VRI (C : Cx) (φ : Nat→Addr) (N : Nat) (v : V) (c : Value) : Prop:=match v with
 | .none=>c = .none
 | .bool b=>c = .bool b
 | .int i=>∃ t,c = .int i t
 | .bytes l=>∃ b t,l = b.toList.map UInt8.toNat∧c = .bytes b t∧b.size ≤ sizeLine
 | .str l=>∃ x t,l = x.cps.toList∧c = .str x t
 | .ref n=>c = .ref (φ n)∧n < N
 | .fn k=>c = .ref (C.fa k)
 | .cls k=>c = .ref (C.ca k)
 | .ty k=>c = .type (tyName k)
 | .blt k=>c = .builtin (bltName k)
theorem VR.inv {φ : Nat→Addr} {N : Nat} {v : V} {c : Value} (h : VR C φ N v c) : VRI C φ N v c:=by
 induction h with
 | int i t=>exact ⟨_,rfl⟩
 | bytes b t h=>exact in2_3 _ _ rfl rfl h
 | str s t=>exact in2_2 _ _ rfl rfl
 | ref n h=>exact ⟨rfl,h⟩
 | _=>rfl
theorem VR.mono {φ φ' : Nat→Addr} {N N' : Nat} {v : V} {cv : Value} (h : VR C φ N v cv) (hp : ∀ n,n < N→φ' n = φ n) (hN : N ≤ N') : VR C φ' N' v cv:=by
 induction h with
 | none=>exact .none
 | bool b=>exact .bool b
 | int i t=>exact .int i t
 | bytes b t h=>exact .bytes b t h
 | str s t=>exact .str s t
 | ref n hn=>rw [← hp n hn]; exact .ref n (Nat.lt_of_lt_of_le hn hN)
 | fn k=>exact .fn k
 | cls k=>exact .cls k
 | ty k=>exact .ty k
 | blt k=>exact .blt k
inductive All2 {α β : Type} (R : α→β→Prop) : List α→List β→Prop
 | nil : All2 R [] []
 | cons {x y r t} : R x y→All2 R r t→All2 R (x :: r) (y :: t)
noncomputable abbrev All2I {α β : Type} (R : α→β→Prop) (l : List α) (m : List β) : Prop:=match l with
 | []=>m = []
 | x :: r=>∃ y t,m = y :: t∧R x y∧All2 R r t
theorem All2.inv {α β : Type} {R : α→β→Prop} {l : List α} {m : List β} (h : All2 R l m) : All2I R l m:=by
 induction h with
 | nil=>rfl
 | cons a b _=>exact in2_3 _ _ rfl a b
theorem All2.mono {α β : Type} {R R' : α→β→Prop} {l : List α} {m : List β} (h : All2 R l m) (f : ∀ x y,R x y→R' x y) : All2 R' l m:=by
 induction h with
 | nil=>exact .nil
 | cons h _ ih=>exact .cons (f _ _ h) ih
theorem All2.length {α β : Type} {R : α→β→Prop} {l : List α} {m : List β} (h : All2 R l m) : l.length = m.length:=by
 induction h with
 | nil=>rfl
 | cons _ _ ih=>simp [ih]
theorem All2.append {α β : Type} {R : α→β→Prop} {l l' : List α} {m m' : List β} (h : All2 R l m) (h' : All2 R l' m') : All2 R (l ++ l') (m ++ m'):=by
 induction h with
 | nil=>exact h'
 | cons h _ ih=>exact .cons h ih
theorem All2.get {α β : Type} {R : α→β→Prop} {l : List α} {m : List β} (h : All2 R l m) {i : Nat} {x : α} (e : l[i]? = some x) : ∃ y,m[i]? = some y∧R x y:=by
 induction h generalizing i with
 | nil=>injection e
 | cons h _ ih=>
  induction i with
  | zero=>cases e; exact ⟨_,rfl,h⟩
  | succ i=>exact ih e
theorem All2.set {α β : Type} {R : α→β→Prop} {l : List α} {m : List β} (h : All2 R l m) (i : Nat) {x : α} {y : β} (r : R x y) : All2 R (l.set i x) (m.set i y):=by
 induction h generalizing i with
 | nil=>exact .nil
 | cons h t ih=>
  induction i with
  | zero=>exact .cons r t
  | succ i=>exact .cons h (ih i)
theorem All2.take {α β : Type} {R : α→β→Prop} {l : List α} {m : List β} (h : All2 R l m) (k : Nat) : All2 R (l.take k) (m.take k):=by
 induction h generalizing k with
 | nil=>simp; exact .nil
 | cons h t ih=>
  induction k with
  | zero=>exact .nil
  | succ k=>exact .cons h (ih k)
theorem All2.drop {α β : Type} {R : α→β→Prop} {l : List α} {m : List β} (h : All2 R l m) (k : Nat) : All2 R (l.drop k) (m.drop k):=by
 induction h generalizing k with
 | nil=>simp; exact .nil
 | cons h t ih=>
  induction k with
  | zero=>exact .cons h t
  | succ k=>exact ih k
noncomputable def CodeAt (h : Heap) (cd : Addr) : Prop:=∃ o vs x,h.get? cd = some o∧o.data = .fields vs∧vs[1]? = some x
structure FdOk (C : Cx) (φ : Nat→Addr) (N : Nat) (k : Nat) (cs : List Nat) (fd : FuncData) : Prop where
 par : fd.params = C.par k
 bod : fd.body = C.bod k
 sco : fd.scope = C.sco k
 glo : fd.globals = mainGlobals
 bui : fd.builtins = builtinsNs
 kwd : fd.kwdefaults = .none
 cod : C.cod k = .none ∨ fd.code = C.cod k
 clo : ∀ (i : Nat) x,(freeNames (C.sco k))[i]? = some x→∃ n : Nat,cs[i]? = some n∧n < N∧fd.closure.lookup x = some (φ n)
noncomputable def OptR {α β : Type} (R : α→β→Prop) : Option α→Option β→Prop
 | none,none=>True
 | some a,some b=>R a b
 | _,_=>False
noncomputable def AttR (C : Cx) (φ : Nat→Addr) (N : Nat) (p : Nat × V) (e : DictEntry) : Prop:=p.1 < 60∧(∃ t,e.key = .str (C.an p.1) t)∧VR C φ N p.2 e.val
inductive OS (C : Cx) (φ : Nat→Addr) (N : Nat) (h : Heap) : O→Obj→Prop
 | list {xs : List V} {vs : List Value} {ep : Nat} : All2 (VR C φ N) xs vs→vs.length ≤ 100000→OS C φ N h (.list xs) ⟨.type "list",.none,.seq vs.toArray ep,#[]⟩
 | tup {xs : List V} {vs : List Value} {ep : Nat} {sl : Array (Option Value)} : All2 (VR C φ N) xs vs→vs.length ≤ 100000→OS C φ N h (.tup xs) ⟨.type "tuple",.none,.seq vs.toArray ep,sl⟩
 | inst {c d : Nat} {sl : Array (Option Value)} : d < N→OS C φ N h (.inst c d) ⟨.ref (C.ca c),some (φ d),.plain,sl⟩
 | attrs {fs : List (Nat × V)} {es : List DictEntry} {ep : Nat} :
   All2 (AttR C φ N) fs es→es.length ≤ 200→OS C φ N h (.attrs fs) ⟨.type "dict",.none,.dict es.toArray ep,#[]⟩
 | cell {v : Option V} {cv : Option Value} {cl : Value} {dd : Option Addr} {sl : Array (Option Value)} : OptR (VR C φ N) v cv→OS C φ N h (.cell v) ⟨cl,dd,.cell cv,sl⟩
 | clo {k : Nat} {cs : List Nat} {fd : FuncData} {cd : Addr} {dd : Option Addr} {sl : Array (Option Value)} : FdOk C φ N k cs fd→fd.defaults = .none→fd.code = .ref cd→CodeAt h cd→(∀ n : Nat,n < N→φ n ≠ cd) →
   OS C φ N h (.clo k cs) ⟨.type "function",dd,.func fd,sl⟩
 | frz {xs : List V} {vs : List Value} {ep : Nat} {dd : Option Addr} {sl : Array (Option Value)} : All2 (VR C φ N) xs vs→vs.length ≤ 100000→C.fzo = ⟨.type "list",dd,.seq vs.toArray ep,sl⟩→OS C φ N h (.frz xs) ⟨.type "list",dd,.seq vs.toArray ep,sl⟩
 | exc {c : Nat} {d : Option Nat} {up : Bool} {vs : Array Value} {sl : Array (Option Value)} : (∀ n,d = some n→n < N)→1 < vs.size→(up = false→vs[1]? = some .none)→OS C φ N h (.exc c d up) ⟨.ref (C.ca c),d.map φ,.fields vs,sl⟩
noncomputable abbrev OSI (C : Cx) (φ : Nat→Addr) (N : Nat) (h : Heap) (o : O) (ob : Obj) : Prop:=match o with
 | .list xs=>∃ (vs : List Value) (ep : Nat),ob = ⟨.type "list",.none,.seq vs.toArray ep,#[]⟩∧All2 (VR C φ N) xs vs∧vs.length ≤ 100000
 | .tup xs=>∃ (vs : List Value) (ep : Nat) (sl : Array (Option Value)),ob = ⟨.type "tuple",.none,.seq vs.toArray ep,sl⟩∧All2 (VR C φ N) xs vs∧vs.length ≤ 100000
 | .inst c d=>∃ sl : Array (Option Value),ob = ⟨.ref (C.ca c),some (φ d),.plain,sl⟩∧d < N
 | .attrs fs=>∃ (es : List DictEntry) (ep : Nat),ob = ⟨.type "dict",.none,.dict es.toArray ep,#[]⟩∧All2 (AttR C φ N) fs es∧es.length ≤ 200
 | .cell v=>∃ (cv : Option Value) (cl : Value) (dd : Option Addr) (sl : Array (Option Value)),ob = ⟨cl,dd,.cell cv,sl⟩∧OptR (VR C φ N) v cv
 | .clo k cs=>∃ (fd : FuncData) (cd : Addr) (dd : Option Addr) (sl : Array (Option Value)),ob = ⟨.type "function",dd,.func fd,sl⟩∧FdOk C φ N k cs fd∧fd.defaults = .none∧fd.code = .ref cd∧CodeAt h cd∧∀ n : Nat,n < N→φ n ≠ cd
 | .frz xs=>∃ (vs : List Value) (ep : Nat) (dd : Option Addr) (sl : Array (Option Value)),ob = ⟨.type "list",dd,.seq vs.toArray ep,sl⟩∧All2 (VR C φ N) xs vs∧vs.length ≤ 100000∧C.fzo = ⟨.type "list",dd,.seq vs.toArray ep,sl⟩
 | .exc c d up=>∃ (vs : Array Value) (sl : Array (Option Value)),ob = ⟨.ref (C.ca c),d.map φ,.fields vs,sl⟩∧(∀ n,d = some n→n < N)∧1 < vs.size∧(up = false→vs[1]? = some .none)
theorem OS.inv {φ : Nat→Addr} {N : Nat} {h : Heap} {o : O} {ob : Obj} (x : OS C φ N h o ob) : OSI C φ N h o ob:=by
 induction x with
 | list a b=>exact in2_3 _ _ rfl a b
 | tup a b=>exact in3_3 _ _ _ rfl a b
 | inst a=>exact in1_2 _ rfl a
 | attrs a b=>exact in2_3 _ _ rfl a b
 | cell a=>exact in4_2 _ _ _ _ rfl a
 | clo a b c d e=>exact in4_6 _ _ _ _ rfl a b c d e
 | frz a b c=>exact in4_4 _ _ _ _ rfl a b c
 | exc a b c=>exact in2_4 _ _ rfl a b c
noncomputable def Free (C : Cx) (a : Addr) : Prop:=C.base.get? a = none∧a ∉ C.tabs
structure Rel (C : Cx) (φ : Nat→Addr) (H : List O) (h : Heap) : Prop where
 obj : ∀ n o,H[n]? = some o→∃ ob,h.get? (φ n) = some ob∧OS C φ H.length h o ob
 inj : ∀ n m,n < H.length→m < H.length→φ n = φ m→n = m
 new : ∀ n,n < H.length→Free C (φ n)
 base : ∀ b o,C.base.get? b = some o→h.get? b = some o
 tabs : ∀ P,P ∈ C.tabs→∃ ps,h.get? P = some ⟨.none,.none,.fields ps,#[]⟩∧TriplesOk ps.toList ∧
  ∀ pos c,codeAmong pos ps.toList = some c→∃ cd,c = .ref cd∧(∀ n,n < H.length→φ n ≠ cd)∧CodeAt h cd
theorem Rel.free {φ : Nat→Addr} {H : List O} {h : Heap} {a : Addr} (r : Rel C φ H h) (e : h.get? a = none) : Free C a:=by
 refine ⟨?_,fun q=>?_⟩
 ·induction z : C.base.get? a using Option.casesOn with
  | none=>rfl
  | some o=>rw [r.base a o z] at e; injection e
 ·refine ex1_2 (r.tabs a q) fun ps h1 _=>?_
  rw [h1] at e; injection e
theorem Rel.at {φ : Nat→Addr} {H : List O} {h : Heap} {n : Nat} (r : Rel C φ H h) (hn : n < H.length) : ∃ ob,h.get? (φ n) = some ob:=by
 refine ex1_2 (r.obj n H[n] (List.getElem?_eq_getElem hn)) fun ob h1 _=>?_
 exact ⟨ob,h1⟩
noncomputable def Cx.Low (C : Cx) : Prop:=∀ P,P ∈ C.tabs→C.base.get? P = none
structure Ext (C : Cx) (φ : Nat→Addr) (H : List O) (s : Shared) (φ' : Nat→Addr) (H' : List O) (s' : Shared) : Prop where
 len : H.length ≤ H'.length
 phi : ∀ n,n < H.length→φ' n = φ n
 fresh : ∀ n,H.length ≤ n→n < H'.length→s.heap.get? (φ' n) = none
 keep : ∀ b o,s.heap.get? b = some o→(∀ n,n < H.length→φ n ≠ b)→b ∉ C.tabs→∃ sl,s'.heap.get? b = some { o with slots:=sl }∧((∃ vs,o.data = .fields vs)→sl = o.slots)
 live : ∀ b o,s.heap.get? b = some o→∃ o',s'.heap.get? b = some o'
 gens : s'.gens = s.gens
 os : s'.os = s.os
theorem Ext.refl (φ : Nat→Addr) (H : List O) (s : Shared) : Ext C φ H s φ H s:=
 ⟨Nat.le_refl _,fun _ _=>rfl,fun n h1 h2=>absurd h2 (Nat.not_lt.mpr h1),fun _ o e _ _=>⟨o.slots,e,fun _=>rfl⟩,fun _ o e=>⟨o,e⟩,rfl,rfl⟩
theorem Ext.off {φ φ' : Nat→Addr} {H H' : List O} {s s' : Shared} (x : Ext C φ H s φ' H' s') {b : Addr} {o : Obj} (hb : ∀ n,n < H.length→φ n ≠ b) (hl : s.heap.get? b = some o) : ∀ n,n < H'.length→φ' n ≠ b:=fun n hn q=>by
 by_cases z : n < H.length
 ·exact hb n z (by rw [← x.phi n z]; exact q)
 ·have h3:=x.fresh n (Nat.not_lt.mp z) hn
  rw [q,hl] at h3
  injection h3
theorem Ext.trans {φ φ₁ φ₂ : Nat→Addr} {H H₁ H₂ : List O} {s s₁ s₂ : Shared} (x : Ext C φ H s φ₁ H₁ s₁) (y : Ext C φ₁ H₁ s₁ φ₂ H₂ s₂) : Ext C φ H s φ₂ H₂ s₂:=by
 refine ⟨Nat.le_trans x.len y.len,fun n hn=>(y.phi n (Nat.lt_of_lt_of_le hn x.len)).trans (x.phi n hn),fun n h1 h2=>?_,fun b o e h1 h2=>?_,fun b o e=>?_,y.gens.trans x.gens,y.os.trans x.os⟩
 ·by_cases q : n < H₁.length
  ·rw [y.phi n q]; exact x.fresh n h1 q
  ·have z:=y.fresh n (Nat.not_lt.mp q) h2
   induction w : s.heap.get? (φ₂ n) using Option.casesOn with
   | none=>rfl
   | some o=>
    obtain ⟨o',e⟩:=x.live _ _ w
    rw [e] at z; injection z
 ·refine ex1_2 (x.keep b o e h1 h2) fun sl e1 f1=>?_
  refine ex1_2 (y.keep b _ e1 (x.off h1 e) h2) fun sl' e2 f2=>?_
  exact ⟨sl',e2,fun h=>(f2 h).trans (f1 h)⟩
 ·obtain ⟨o',e1⟩:=x.live b o e
  exact y.live b o' e1
theorem ns_slots {h h' : Heap} {a : Addr} {m : Str→Option Value} (k : ∀ o,h.get? a = some o→∃ sl,h'.get? a = some { o with slots:=sl }) (hn : h.Ns a m) : h'.Ns a m:=by
 (refine ex3_3 hn fun o es ep ho hd r=>?_; clear hn)
 obtain ⟨sl,hs⟩:=k o ho
 exact ⟨_,es,ep,hs,hd,r⟩
noncomputable def StkOk (C : Cx) (φ : Nat→Addr) (N : Nat) (l : List Env) (h : Heap) : Prop:=
 ∀ e,e ∈ l→e.scope.kind ≠ .module∧∃ L o,e.frame = some L∧Free C L∧(∀ n,n < N→φ n ≠ L)∧h.get? L = some o∧∀ vs,o.data ≠ .fields vs
theorem StkOk.ext {φ φ' : Nat→Addr} {H H' : List O} {s s' : Shared} {l : List Env} (x : Ext C φ H s φ' H' s') (k : StkOk C φ H.length l s.heap) : StkOk C φ' H'.length l s'.heap:=fun e he=>by
 obtain ⟨h1,L,o,h2,h3,h4,h5,h6⟩:=k e he
 refine ex1_2 (x.keep L o h5 h4 h3.2) fun sl h7 _=>?_
 exact ⟨h1,L,_,h2,h3,x.off h4 h5,h7,h6⟩
theorem StkOk.fun {φ : Nat→Addr} {N : Nat} {l : List Env} {h : Heap} (k : StkOk C φ N l h) : h.FunFrames C.base l:=by
 induction l with
 | nil=>trivial
 | cons e r ih=>
  obtain ⟨h1,L,o,h2,h3,h4,h5,h6⟩:=k e (.head _)
  exact ⟨h1,⟨L,o,h2,h3.1,h5,h6⟩,ih fun e' he=>k e' (.tail _ he)⟩
noncomputable def LocR (C : Cx) (φ : Nat→Addr) (N : Nat) (names : List Str) (ρ : Lo) (m : Str→Option Value) : Prop:=
 ρ.length = names.length∧∀ (i : Nat) x v,names[i]? = some x→ρ[i]? = some (some v)→∃ cv,m x = some cv∧VR C φ N v cv
structure EnvOk (C : Cx) (φ : Nat→Addr) (N : Nat) (cdv : Value) (sc : Scope) (cs : List Nat) (ρ : Lo) (h : Heap) (env : Env) : Prop where
 kind : env.scope.kind = .function
 glo : env.globals = mainGlobals
 bui : env.builtins = builtinsNs
 cod : cdv = .none ∨ env.code = cdv
 loc : ∀ (i : Nat) x,(localNames sc)[i]? = some x→env.kindOf x = some .local
 cel : ∀ (i : Nat) x,(celNames sc)[i]? = some x→(env.kindOf x = some .cell ∨ env.kindOf x = some .free)∧∃ n : Nat,cs[i]? = some n∧n < N∧env.cells.lookup x = some (φ n)
 own : ∀ x,(x,PySem.NameKind.cell) ∈ sc.names→env.kindOf x = some .cell
 gim : ∀ x,(x,.globalImplicit) ∈ sc.names→env.kindOf x = some .globalImplicit
 fr : ∃ L,env.frame = some L
 ns : ∃ m,h.Ns env.locals m∧LocR C φ N (localNames sc) ρ m
 low : Free C env.locals
 off : ∀ n,n < N→φ n ≠ env.locals
theorem EnvOk.ext {φ φ' : Nat→Addr} {H H' : List O} {s s' : Shared} {cdv : Value} {sc : Scope} {cs : List Nat} {ρ : Lo} {env : Env} (x : Ext C φ H s φ' H' s') (k : EnvOk C φ H.length cdv sc cs ρ s.heap env) : EnvOk C φ' H'.length cdv sc cs ρ s'.heap env:=by
 refine ex1_3 k.ns fun m hn hlen hr=>?_
 have hn':=hn
 (refine ex3_2 hn' fun ol _ _ hol _=>?_; clear hn')
 refine ⟨k.kind,k.glo,k.bui,k.cod,k.loc,fun i y e=>?_,k.own,k.gim,k.fr,⟨m,ns_slots (fun o e=>let ⟨sl,z,_⟩:=x.keep _ o e k.off k.low.2; ⟨sl,z⟩) hn,hlen,fun i y v e1 e2=>?_⟩,k.low,x.off k.off hol⟩
 ·obtain ⟨h1,n,h2,h3,h4⟩:=k.cel i y e
  exact ⟨h1,n,h2,Nat.lt_of_lt_of_le h3 x.len,by rw [x.phi n h3]; exact h4⟩
 ·refine ex1_2 (hr i y v e1 e2) fun cv h1 h2=>?_
  exact ⟨cv,h1,h2.mono x.phi x.len⟩
structure Rdy (A : Around) (l : List Env) (d : Nat) : Prop where
 fr : A.frames = some l
 han : A.handled = none
 dep : A.depth + d ≤ 900
 uni : A.units + 8 * d ≤ 9000
theorem Rdy.less {A : Around} {l : List Env} {d d' : Nat} (x : Rdy A l d) (h : d' ≤ d) : Rdy A l d':=⟨x.fr,x.han,by have:=x.dep; lia,by have:=x.uni; lia⟩
noncomputable def Air (C : Cx) (h₀ : Heap) (φ : Nat→Addr) (N : Nat) (fl : Option Addr) (e : Addr) (h : Heap) : Prop:=
 ∃ oe vs,h.get? e = some oe∧oe.data = .fields vs∧(vs[1]? = some .none ∨ ∃ T oT ts f,vs[1]? = some (.ref T)∧h₀.get? T = none∧Free C T∧(∀ n,n < N→φ n ≠ T)∧h.get? T = some oT∧oT.data = .fields ts ∧
  ts[3]? = some f∧(f = .none ∨ ∃ L,fl = some L∧f = rawInt L))
noncomputable def ErrR (C : Cx) (h₀ : Heap) (fl : Option Addr) (φ : Nat→Addr) (H : List O) (n : Nat) (ce : Value) (h : Heap) : Prop:=
 ce = .ref (φ n)∧(∃ c d,H[n]? = some (.exc c d true))∧Air C h₀ φ H.length fl (φ n) h
theorem ErrR.old {C : Cx} {h₁ h₀ : Heap} {fl : Option Addr} {φ : Nat→Addr} {H : List O} {n : Nat} {ce : Value} {h : Heap} (x : ErrR C h₁ fl φ H n ce h) (k : ∀ b o,h₀.get? b = some o→∃ o',h₁.get? b = some o') : ErrR C h₀ fl φ H n ce h:=by
 obtain ⟨a,b,oe,vs,c1,c2,c3⟩:=x
 rcases c3 with c3 | ⟨T,oT,ts,f,c3,c4,r⟩
 ·exact ⟨a,b,oe,vs,c1,c2,.inl c3⟩
 refine ⟨a,b,oe,vs,c1,c2,.inr ⟨T,oT,ts,f,c3,?_,r⟩⟩
 induction q : h₀.get? T using Option.casesOn with
 | none=>rfl
 | some o=>
  obtain ⟨o',e⟩:=k _ _ q
  rw [c4] at e; injection e
inductive OkP (C : Cx) {α γ : Type} (R : (Nat→Addr)→Nat→Heap→α→γ→Prop) (φ : Nat→Addr) (H : List O) (s : Shared) (res : Res α) (c : γ) (s' : Shared) : Prop
 | mk (a : α) (H' : List O) (φ' : Nat→Addr) (q : res = .ok a H') (x : Ext C φ H s φ' H' s') (r : Rel C φ' H' s'.heap) (z : R φ' H'.length s'.heap a c) : OkP C R φ H s res c s'
inductive ErP (C : Cx) {α : Type} (fl : Option Addr) (φ : Nat→Addr) (H : List O) (s : Shared) (res : Res α) (ce : Value) (s' : Shared) : Prop
 | mk (n : Nat) (H' : List O) (φ' : Nat→Addr) (q : res = .err n H') (x : Ext C φ H s φ' H' s') (r : Rel C φ' H' s'.heap) (z : ErrR C s.heap fl φ' H' n ce s'.heap) : ErP C fl φ H s res ce s'
noncomputable def Sim (C : Cx) (A : Around) (fl : Option Addr) {α γ : Type} (R : (Nat→Addr)→Nat→Heap→α→γ→Prop) (m : M α) (t : Sem γ) (φ : Nat→Addr) (H : List O) (s : Shared) : Prop:=
 m H ≠ .stuck→wpAny (model C.prog C.w) A t
  (OkP C R φ H s (m H)) (ErP C fl φ H s (m H)) s
section
variable {A : Around} {fl : Option Addr} {α β γ δ : Type} {R : (Nat→Addr)→Nat→Heap→α→γ→Prop} {R' : (Nat→Addr)→Nat→Heap→β→δ→Prop} {m : M α} {f : α→M β} {t : Sem γ} {k : γ→Sem δ} {φ : Nat→Addr} {H : List O} {s : Shared}
theorem Sim.bind (h1 : Sim C A fl R m t φ H s)
  (h2 : ∀ a c H₁ φ₁ s₁,m H = .ok a H₁→Ext C φ H s φ₁ H₁ s₁→Rel C φ₁ H₁ s₁.heap→R φ₁ H₁.length s₁.heap a c→Sim C A fl R' (f a) (k c) φ₁ H₁ s₁) :
  Sim C A fl R' (m >>= f) (t >>= k) φ H s:=by
 intro hne
 have e : (m >>= f) H = M.bind m f H:=rfl
 unfold M.bind at e
 have hm : m H ≠ .stuck:=fun q=>by rw [q] at e; exact hne e
 refine wpAny_bind (wpAny_mono (h1 hm) ?_ ?_)
 ·intro c s₁ zq; obtain ⟨a,H₁,φ₁,q,x,r,z⟩:=zq
  have e' : (m >>= f) H = f a H₁:=by rw [e,q]
  refine wpAny_mono (h2 a c H₁ φ₁ s₁ q x r z (by rw [← e']; exact hne)) ?_ ?_
  ·intro c' s₂ zq; obtain ⟨b,H₂,φ₂,q₂,x₂,r₂,z₂⟩:=zq
   exact ⟨b,H₂,φ₂,e'.trans q₂,x.trans x₂,r₂,z₂⟩
  ·intro ce s₂ zq; obtain ⟨n,H₂,φ₂,q₂,x₂,r₂,z₂⟩:=zq
   exact ⟨n,H₂,φ₂,e'.trans q₂,x.trans x₂,r₂,z₂.old x.live⟩
 ·intro ce s₁ zq; obtain ⟨n,H₁,φ₁,q,x,r,z⟩:=zq
  exact ⟨n,H₁,φ₁,by rw [e,q],x,r,z⟩
theorem Sim.pure {a : α} {c : γ} (r : Rel C φ H s.heap) (h : R φ H.length s.heap a c) : Sim C A fl R (Pure.pure a) (Pure.pure c) φ H s:=
 fun _=>wpAny_pure ⟨a,H,φ,rfl,.refl ..,r,h⟩
theorem Sim.standAt {p : Pos} (h : Sim C A fl R m t φ H s) : Sim C A fl R m (PySem.standAt p >>= fun _=>t) φ H s:=fun hne=>wpAny_bind (wpAny_standAt (h hne))
theorem Sim.rule {p : String} (h : Sim C A fl R m t φ H s) : Sim C A fl R m (PySem.rule p >>= fun _=>t) φ H s:=fun hne=>wpAny_bind (wpAny_rule (h hne))
theorem Sim.holding {vs : List Value} (h : Sim C A fl R m t φ H s) : Sim C A fl R m (PySem.holding vs t) φ H s:=fun hne=>wpAny_holding (h hne)
theorem Sim.of_stuck (h : m H = .stuck) : Sim C A fl R m t φ H s:=fun q=>absurd h q
theorem Sim.stuck : Sim C A fl R Mp.stuck t φ H s:=fun q=>absurd rfl q
theorem Sim.mono {R₁ : (Nat→Addr)→Nat→Heap→α→γ→Prop} (h : Sim C A fl R₁ m t φ H s) (hr : ∀ φ N h a c,R₁ φ N h a c→R φ N h a c) : Sim C A fl R m t φ H s:=fun hne=>
 wpAny_mono (h hne) (fun c s' ⟨a,H',φ',q,x,r,z⟩=>⟨a,H',φ',q,x,r,hr _ _ _ _ _ z⟩) fun _ _ z=>z
theorem Sim.eq {m' : M α} (h : Sim C A fl R m' t φ H s) (e : m H = m' H) : Sim C A fl R m t φ H s:=by
 unfold Sim at h ⊢
 rw [e]; exact h
theorem Sim.tail {t₂ : γ→Sem δ} {R₂ : (Nat→Addr)→Nat→Heap→α→δ→Prop} (h : Sim C A fl R m t φ H s)
  (h2 : ∀ a c H₁ φ₁ s₁,m H = .ok a H₁→Ext C φ H s φ₁ H₁ s₁→Rel C φ₁ H₁ s₁.heap→R φ₁ H₁.length s₁.heap a c→Sim C A fl R₂ (Pure.pure a) (t₂ c) φ₁ H₁ s₁) :
  Sim C A fl R₂ m (t >>= t₂) φ H s:=by
 have e : m = (m >>= fun a=>Pure.pure a):=by
  funext H
  refine (?_ : m H = M.bind m (fun a=>M.pure a) H)
  unfold M.bind M.pure
  cases m H <;> rfl
 rw [e]
 exact Sim.bind h h2
theorem Sim.head {t₁ : Sem δ} {t₂ : δ→Sem γ} (h : wpAny (model C.prog C.w) A t₁ (fun x s'=>Ext C φ H s φ H s'∧Sim C A fl R m (t₂ x) φ H s') (fun _ _=>False) s) :
  Sim C A fl R m (t₁ >>= t₂) φ H s:=fun hne=>
 wpAny_bind (wpAny_mono h (fun x s' ⟨x1,z⟩=>wpAny_mono (z hne)
  (fun c s₂ ⟨a,H',φ',q,x2,r,w⟩=>⟨a,H',φ',q,x1.trans x2,r,w⟩) (fun c s₂ ⟨a,H',φ',q,x2,r,w⟩=>⟨a,H',φ',q,x1.trans x2,r,w.old x1.live⟩)) fun _ _ z=>z.elim)
theorem Sim.look {t₁ : Sem δ} {t₂ : δ→Sem γ} {x : δ} (h : Looks (model C.prog C.w) s.heap t₁ x) (h2 : Sim C A fl R m (t₂ x) φ H s) :
  Sim C A fl R m (t₁ >>= t₂) φ H s:=fun hne=>wpAny_bind (h.here (h2 hne))
end
noncomputable abbrev VH (C : Cx) : (Nat→Addr)→Nat→Heap→V→Value→Prop:=fun φ N _ v c=>VR C φ N v c
end
section
variable {C : Cx}
theorem CodeAt.keep {h h' : Heap} {cd : Addr} (x : CodeAt h cd) (k : ∀ o,h.get? cd = some o→∃ sl,h'.get? cd = some { o with slots:=sl }) : CodeAt h' cd:=by
 (refine ex3_3 x fun o vs y h1 h2 h3=>?_; clear x)
 obtain ⟨sl,h4⟩:=k o h1
 exact in3_3 _ vs y h4 h2 h3
theorem CodeAt.lt {h : Heap} {cd : Addr} (x : CodeAt h cd) : cd < h.objs.size:=let ⟨_,_,_,h1,_⟩:=x; Heap.lt_size h1
theorem FdOk.mono {φ φ' : Nat→Addr} {N N' : Nat} {k : Nat} {cs : List Nat} {fd : FuncData} (x : FdOk C φ N k cs fd) (hp : ∀ n,n < N→φ' n = φ n) (hN : N ≤ N') : FdOk C φ' N' k cs fd:=
 ⟨x.par,x.bod,x.sco,x.glo,x.bui,x.kwd,x.cod,fun i y e=>by
  refine ex1_3 (x.clo i y e) fun n h1 h2 h3=>?_
  exact in1_3 n h1 (Nat.lt_of_lt_of_le h2 hN) (by rw [hp n h2]; exact h3)⟩
theorem OptR.mono {α β : Type} {R R' : α→β→Prop} {a : Option α} {b : Option β} (h : OptR R a b) (f : ∀ x y,R x y→R' x y) : OptR R' a b:=by
 induction a using Option.casesOn <;> induction b using Option.casesOn <;> first | exact h | exact f _ _ h | exact h.elim
theorem OS.mono {φ φ' : Nat→Addr} {N N' : Nat} {h h' : Heap} {o : O} {ob : Obj} (x : OS C φ N h o ob) (hp : ∀ n,n < N→φ' n = φ n) (hN : N ≤ N')
  (hc : ∀ cd,CodeAt h cd→(∀ n,n < N→φ n ≠ cd)→CodeAt h' cd∧∀ n,n < N'→φ' n ≠ cd) : OS C φ' N' h' o ob:=by
 induction x with
 | list a l=>exact .list (a.mono fun _ _ z=>z.mono hp hN) l
 | tup a l=>exact .tup (a.mono fun _ _ z=>z.mono hp hN) l
 | frz a l e=>exact .frz (a.mono fun _ _ z=>z.mono hp hN) l e
 | inst a=>rw [← hp _ a]; exact .inst (Nat.lt_of_lt_of_le a hN)
 | attrs a l=>exact .attrs (a.mono fun _ _ z=>⟨z.1,z.2.1,z.2.2.mono hp hN⟩) l
 | cell a=>exact .cell (a.mono fun _ _ z=>z.mono hp hN)
 | clo a b c d f=>
  obtain ⟨q1,q2⟩:=hc _ d f
  exact .clo (a.mono hp hN) b c q1 q2
 | exc a b b'=>
  rename_i c d up vs sl
  have : d.map φ = d.map φ':=by
   induction d using Option.casesOn with
   | none=>rfl
   | some n=>exact congrArg some (hp n (a n rfl)).symm
  rw [this]
  exact .exc (fun n e=>Nat.lt_of_lt_of_le (a n e) hN) b b'
noncomputable def addφ (φ : Nat→Addr) (N : Nat) (a : Addr) : Nat→Addr:=fun n=>if n = N then a else φ n
theorem addφ_lt {φ : Nat→Addr} {N : Nat} {a : Addr} {n : Nat} (h : n < N) : addφ φ N a n = φ n:=if_neg (Nat.ne_of_lt h)
theorem addφ_at {φ : Nat→Addr} {N : Nat} {a : Addr} : addφ φ N a N = a:=if_pos rfl
section
variable {φ : Nat→Addr} {H : List O} {s : Shared} {h' : Heap} {tk : Nat}
theorem grow_ext (g : ∀ b o,s.heap.get? b = some o→h'.get? b = some o) : Ext C φ H s φ H { s with heap:=h',toks:=tk }:=
 ⟨Nat.le_refl _,fun _ _=>rfl,fun n h1 h2=>absurd h2 (Nat.not_lt.mpr h1),fun b o e _ _=>⟨o.slots,g b o e,fun _=>rfl⟩,fun b o e=>⟨o,g b o e⟩,rfl,rfl⟩
theorem Rel.grow {h : Heap} (r : Rel C φ H h) (g : ∀ b o,h.get? b = some o→h'.get? b = some o) : Rel C φ H h':=by
 have hc : ∀ cd,CodeAt h cd→CodeAt h' cd:=fun cd x=>x.keep fun o e=>⟨o.slots,g _ _ e⟩
 refine ⟨fun n o e=>?_,r.inj,r.new,fun b o e=>g _ _ (r.base b o e),fun P hP=>?_⟩
 ·refine ex1_2 (r.obj n o e) fun ob h1 h2=>?_
  exact in1_2 ob (g _ _ h1) (h2.mono (fun _ _=>rfl) (Nat.le_refl _) fun cd x y=>⟨hc cd x,y⟩)
 ·refine ex1_3 (r.tabs P hP) fun ps h1 h2 h3=>?_
  refine in1_3 ps (g _ _ h1) h2 (fun pos c e=>?_)
  refine ex1_3 (h3 pos c e) fun cd a1 a3 a4=>?_
  exact in1_3 cd a1 a3 (hc cd a4)
theorem Rel.add {o : O} {ob : Obj} {a : Addr} (r : Rel C φ H s.heap) (g : ∀ b o,s.heap.get? b = some o→h'.get? b = some o)
  (ha : h'.get? a = some ob) (hf : s.heap.get? a = none) (hos : OS C (addφ φ H.length a) (H.length + 1) h' o ob)
  : Ext C φ H s (addφ φ H.length a) (H ++ [o]) { s with heap:=h',toks:=tk }∧Rel C (addφ φ H.length a) (H ++ [o]) h':=by
 have hp : ∀ n,n < H.length→addφ φ H.length a n = φ n:=fun n hn=>addφ_lt hn
 have ne : ∀ n,n < H.length→φ n ≠ a:=fun n hn q=>by
  obtain ⟨ob,h1⟩:=r.at hn
  rw [q,hf] at h1; injection h1
 have hc : ∀ cd,CodeAt s.heap cd→(∀ n,n < H.length→φ n ≠ cd)→CodeAt h' cd∧∀ n,n < H.length + 1→addφ φ H.length a n ≠ cd:=fun cd x y=>by
  refine ⟨x.keep fun o e=>⟨o.slots,g _ _ e⟩,fun n hn q=>?_⟩
  by_cases z : n < H.length
  ·exact y n z (by rw [← hp n z]; exact q)
  ·have : n = H.length:=by lia
   subst this
   rw [addφ_at] at q
   (refine ex3_2 x fun o _ _ e _=>?_; clear x)
   rw [← q,hf] at e; injection e
 refine ⟨⟨by simp,hp,fun n h1 h2=>?_,fun b o e _ _=>⟨o.slots,g b o e,fun _=>rfl⟩,fun b o e=>⟨o,g b o e⟩,rfl,rfl⟩,fun n x e=>?_,fun n m hn hm q=>?_,fun n hn=>?_,fun b o e=>g _ _ (r.base b o e),fun P hP=>?_⟩
 ·simp only [List.length_append,List.length_cons,List.length_nil] at h2
  have : n = H.length:=by lia
  subst this
  rw [addφ_at]; exact hf
 ·simp only [List.length_append,List.length_cons,List.length_nil]
  by_cases z : n < H.length
  ·rw [List.getElem?_append_left z] at e
   refine ex1_2 (r.obj n x e) fun ob' h1 h2=>?_
   exact in1_2 ob' (by rw [hp n z]; exact g _ _ h1) (h2.mono hp (Nat.le_succ _) fun cd x y=>hc cd x y)
  ·have z' : n = H.length:=by
    have:=(List.getElem?_eq_some_iff.mp e).1
    simp only [List.length_append,List.length_cons,List.length_nil] at this
    lia
   subst z'
   simp at e
   subst e
   exact in1_2 ob (by rw [addφ_at]; exact ha) hos
 ·simp only [List.length_append,List.length_cons,List.length_nil] at hn hm
  by_cases z : n < H.length <;> by_cases y : m < H.length
  ·rw [hp n z,hp m y] at q; exact r.inj n m z y q
  ·have y' : m = H.length:=by lia
   subst y'
   rw [hp n z,addφ_at] at q
   exact absurd q (ne n z)
  ·have z' : n = H.length:=by lia
   subst z'
   rw [hp m y,addφ_at] at q
   exact absurd q.symm (ne m y)
  ·lia
 ·simp only [List.length_append,List.length_cons,List.length_nil] at hn
  by_cases z : n < H.length
  ·rw [hp n z]; exact r.new n z
  ·have z' : n = H.length:=by lia
   subst z'
   rw [addφ_at]; exact r.free hf
 ·refine ex1_3 (r.tabs P hP) fun ps h1 h2 h3=>?_
  refine in1_3 ps (g _ _ h1) h2 (fun pos c e=>?_)
  refine ex1_3 (h3 pos c e) fun cd a1 a3 a4=>?_
  obtain ⟨b1,b2⟩:=hc cd a4 a3
  exact in1_3 cd a1 (by simpa using b2) b1
theorem Rel.upd {o' : O} {ob' : Obj} {n : Nat} (r : Rel C φ H s.heap) (hn : n < H.length) (hs : Heap.SameBut (φ n) s.heap h') (ha : h'.get? (φ n) = some ob') (hos : OS C φ H.length h' o' ob')
  : Ext C φ H s φ (H.set n o') { s with heap:=h',toks:=tk }∧Rel C φ (H.set n o') h':=by
 have hc : ∀ cd,CodeAt s.heap cd→(∀ n,n < H.length→φ n ≠ cd)→CodeAt h' cd:=fun cd x y=>x.keep fun o e=>⟨o.slots,by rw [hs.2 cd (Ne.symm (y n hn))]; exact e⟩
 have fr:=r.new n hn
 refine ⟨⟨by simp,fun _ _=>rfl,fun m h1 h2=>by simp at h2; lia,fun b o e h1 _=>⟨o.slots,(by show h'.get? b = some o; rw [hs.2 b (Ne.symm (h1 n hn))]; exact e),fun _=>rfl⟩,fun b o e=>?_,rfl,rfl⟩,fun m x e=>?_,fun a b ha hb q=>?_,fun m hm=>?_,fun b o e=>?_,fun P hP=>?_⟩
 ·by_cases q : b = φ n
  ·exact ⟨ob',by rw [q]; exact ha⟩
  ·exact ⟨o,by show h'.get? b = some o; rw [hs.2 b q]; exact e⟩
 ·rw [List.length_set]
  by_cases z : m = n
  ·subst z
   rw [List.getElem?_set_self hn] at e
   cases e
   exact in1_2 ob' ha hos
  ·rw [List.getElem?_set_ne (Ne.symm z)] at e
   refine ex1_2 (r.obj m x e) fun ob h1 h2=>?_
   have hm : m < H.length:=(List.getElem?_eq_some_iff.mp e).1
   have : φ m ≠ φ n:=fun q=>z (r.inj m n hm hn q)
   exact in1_2 ob (by rw [hs.2 _ this]; exact h1) (h2.mono (fun _ _=>rfl) (Nat.le_refl _) fun cd x y=>⟨hc cd x y,y⟩)
 ·rw [List.length_set] at ha hb; exact r.inj a b ha hb q
 ·rw [List.length_set] at hm; exact r.new m hm
 ·rw [hs.2 b (fun q=>by rw [q,fr.1] at e; injection e)]; exact r.base b o e
 ·refine ex1_3 (r.tabs P hP) fun ps h1 h2 h3=>?_
  refine in1_3 ps (by rw [hs.2 P (fun q=>fr.2 (q ▸ hP))]; exact h1) h2 (fun pos c e=>?_)
  refine ex1_3 (h3 pos c e) fun cd a1 a3 a4=>?_
  exact in1_3 cd a1 (by rw [List.length_set]; exact a3) (hc cd a4 a3)
theorem Rel.off {a : Addr} {h : Heap} (r : Rel C φ H h) (hs : ∀ b o,b ≠ a→h.get? b = some o→h'.get? b = some o) (h0 : Free C a) (ho : ∀ n,n < H.length→φ n ≠ a)
  (hcd : ∀ o,h.get? a = some o→∃ o',h'.get? a = some o'∧(∀ vs x,o.data = .fields vs→vs[1]? = some x→∃ vs' x',o'.data = .fields vs'∧vs'[1]? = some x')) : Rel C φ H h':=by
 have hc : ∀ cd,CodeAt h cd→CodeAt h' cd:=fun cd x=>by
  (refine ex3_3 x fun o vs y h1 h2 h3=>?_; clear x)
  by_cases q : cd = a
  ·subst q
   refine ex1_2 (hcd o h1) fun o' e1 e2=>?_
   refine ex2_2 (e2 vs y h2 h3) fun vs' x' e3 e4=>?_
   exact in3_3 o' vs' x' e1 e3 e4
  ·exact in3_3 o vs y (hs _ _ q h1) h2 h3
 refine ⟨fun n o e=>?_,r.inj,r.new,fun b o e=>?_,fun P hP=>?_⟩
 ·refine ex1_2 (r.obj n o e) fun ob h1 h2=>?_
  exact in1_2 ob (hs _ _ (ho n (List.getElem?_eq_some_iff.mp e).1) h1) (h2.mono (fun _ _=>rfl) (Nat.le_refl _) fun cd x y=>⟨hc cd x,y⟩)
 ·exact hs _ _ (fun q=>by rw [q,h0.1] at e; injection e) (r.base b o e)
 ·refine ex1_3 (r.tabs P hP) fun ps h1 h2 h3=>?_
  refine in1_3 ps (hs _ _ (fun q=>h0.2 (q ▸ hP)) h1) h2 (fun pos c e=>?_)
  refine ex1_3 (h3 pos c e) fun cd a1 a3 a4=>?_
  exact in1_3 cd a1 a3 (hc cd a4)
end
theorem vr_int {φ : Nat→Addr} {N : Nat} {i : Int} {c : Value} (h : VR C φ N (.int i) c) : ∃ t,c = .int i t:=h.inv
theorem vr_bytes {φ : Nat→Addr} {N : Nat} {l : List Nat} {c : Value} (h : VR C φ N (.bytes l) c) : ∃ b t,l = b.toList.map UInt8.toNat∧c = .bytes b t∧b.size ≤ sizeLine:=h.inv
theorem vr_ref {φ : Nat→Addr} {N : Nat} {n : Nat} {c : Value} (h : VR C φ N (.ref n) c) : c = .ref (φ n)∧n < N:=h.inv
theorem v_int {v : V} (h : v.ctorIdx = 2) : ∃ i,v = .int i:=V.int.elim (motive:=fun v=>∃ i,v = .int i) v h fun i=>⟨i,rfl⟩
theorem v_bytes {v : V} (h : v.ctorIdx = 3) : ∃ i,v = .bytes i:=V.bytes.elim (motive:=fun v=>∃ i,v = .bytes i) v h fun i=>⟨i,rfl⟩
theorem v_ref {v : V} (h : v.ctorIdx = 5) : ∃ i,v = .ref i:=V.ref.elim (motive:=fun v=>∃ i,v = .ref i) v h fun i=>⟨i,rfl⟩
end
section
variable {C : Cx} {A : Around} {fl : Option Addr} {φ : Nat→Addr} {H : List O} {s : Shared} {l : List Env} {d : Nat}
theorem Sim.ret {m : M V} {t : Sem Value} {a : V} (hm : m H = .ok a H) (r : Rel C φ H s.heap)
  (h : ∀ (Q : Value→Shared→Prop) (E : Value→Shared→Prop),(∀ cv tk,VR C φ H.length a cv→Q cv { s with toks:=tk })→wpAny (model C.prog C.w) A t Q E s) : Sim C A fl (VH C) m t φ H s:=fun _=>
 h _ _ fun cv tk hv=>⟨a,H,φ,hm,grow_ext (fun _ _ e=>e),r,hv⟩
theorem Sim.grew {m : M V} {t : Sem Value} {a : V} (hm : m H = .ok a H) (r : Rel C φ H s.heap)
  (h : ∀ (Q : Value→Shared→Prop) (E : Value→Shared→Prop),(∀ cv h' tk,(∀ b o,s.heap.get? b = some o→h'.get? b = some o)→VR C φ H.length a cv→Q cv { s with heap:=h',toks:=tk })→wpAny (model C.prog C.w) A t Q E s) : Sim C A fl (VH C) m t φ H s:=fun _=>
 h _ _ fun cv h' tk g hv=>⟨a,H,φ,hm,grow_ext g,r.grow g,hv⟩
theorem Sim.made {m : M V} {t : Sem Value} {o : O} (hm : m H = .ok (.ref H.length) (H ++ [o])) (r : Rel C φ H s.heap)
  (h : ∀ (Q : Value→Shared→Prop) (E : Value→Shared→Prop),(∀ a h' tk ob,(∀ b o,s.heap.get? b = some o→h'.get? b = some o)→h'.get? a = some ob→s.heap.get? a = none →
   (∀ φ' N',(∀ n,n < H.length→φ' n = φ n)→H.length ≤ N'→OS C φ' N' h' o ob)→Q (.ref a) { s with heap:=h',toks:=tk })→wpAny (model C.prog C.w) A t Q E s) : Sim C A fl (VH C) m t φ H s:=fun _=>
 h _ _ fun a h' tk ob g ha hf hos=>by
  have hh:=Rel.add (tk:=tk) r g ha hf (hos _ _ (fun n hn=>addφ_lt hn) (Nat.le_succ _))
  refine ⟨_,_,_,hm,hh.1,hh.2,?_⟩
  have e : Value.ref a = .ref (addφ φ H.length a H.length):=by rw [addφ_at]
  rw [e]
  exact .ref _ (by simp)
theorem get_size_none (h : Heap) : h.get? h.objs.size = none:=by
 induction q : h.get? h.objs.size using Option.casesOn with
 | none=>rfl
 | some o=>exact absurd (Heap.lt_size q) (Nat.lt_irrefl _)
theorem Sim.push {m : M V} {t : Sem Value} {o : O} {ob : Obj} (hm : m H = .ok (.ref H.length) (H ++ [o])) (r : Rel C φ H s.heap) (hfree : ob.isFreed = false)
  (hos : ∀ φ' N',(∀ n,n < H.length→φ' n = φ n)→H.length ≤ N'→OS C φ' N' (s.heap.push ob) o ob)
  (h : ∀ (Q : Value→Shared→Prop) (E : Value→Shared→Prop),(∀ tk,Q (.ref s.heap.objs.size) { s with heap:=s.heap.push ob,toks:=tk })→wpAny (model C.prog C.w) A t Q E s) : Sim C A fl (VH C) m t φ H s:=
 Sim.made hm r fun Q E k=>h Q E fun tk=>k _ _ tk ob (fun b o e=>Heap.get?_push_of_some _ e) (Heap.get?_push_size _ hfree) (get_size_none _) hos
theorem Sim.operate {α : Type} {R : (Nat→Addr)→Nat→Heap→α→Value→Prop} {m : M α} {t : Sem Value} {vs : List Value} (h : Sim C A fl R m t φ H s) : Sim C A fl R m (PySem.operate vs t) φ H s:=fun hne=>wpAny_operating (h hne)
theorem list_of {xs : List V} {ob : Obj} {N : Nat} {h : Heap} (x : OS C φ N h (.list xs) ob) : ∃ (vs : List Value) (ep : Nat),ob = ⟨.type "list",none,.seq vs.toArray ep,#[]⟩∧All2 (VR C φ N) xs vs∧vs.length ≤ 100000:=x.inv
theorem isFrz {n : Nat} {xs : List V} (r : Rel C φ H s.heap) (e : H[n]? = some (.frz xs)) :
  ∃ (vs : List Value) (ob : Obj),s.heap.get? (φ n) = some ob∧ob.cls = .type "list"∧s.heap.IsList (φ n) vs.toArray∧All2 (VR C φ H.length) xs vs∧vs.length ≤ 100000:=by
 refine ex1_2 (r.obj n _ e) fun ob h1 h2=>?_
 refine ex4_4 h2.inv fun vs ep dd sl z a l _=>?_
 subst z
 exact in2_5 _ _ h1 rfl ⟨_,h1,rfl,_,rfl⟩ a l
theorem isList {n : Nat} {xs : List V} (r : Rel C φ H s.heap) (e : H[n]? = some (.list xs)) :
  ∃ (vs : List Value) (ep : Nat),s.heap.get? (φ n) = some ⟨.type "list",none,.seq vs.toArray ep,#[]⟩∧s.heap.IsList (φ n) vs.toArray∧All2 (VR C φ H.length) xs vs∧vs.length ≤ 100000:=by
 refine ex1_2 (r.obj n _ e) fun ob h1 h2=>?_
 (refine ex2_3 (list_of h2) fun vs ep z1q a b=>?_; subst z1q)
 exact in2_4 vs ep h1 ⟨_,h1,rfl,_,rfl⟩ a b
theorem mulOk {a b : Int} (ha : a.natAbs < 1073741824) (hb : b.natAbs < 1073741824) : IntMulOk a b:=IntMulOk.of_left (intBits_le_64 (by lia) (by lia))
theorem bytesR (b : Array UInt8) (t : Nat) (N : Nat) {l : List Nat} (h : b.size ≤ sizeLine) (e : l = b.toList.map UInt8.toNat) : VR C φ N (.bytes l) (.bytes b t):=by rw [e]; exact .bytes b t h
theorem line_is : sizeLine = 16777216:=by rw [sizeLine_eq]
theorem getO_eq {n : Nat} {o : O} (e : H[n]? = some o) : getO n H = .ok o H:=by unfold getO; rw [e]
theorem bind_ok {α β : Type} {m : M α} {f : α→M β} {a : α} {H H' : List O} (e : m H = .ok a H') : (m >>= f) H = f a H':=by
 refine (?_ : M.bind m f H = _)
 unfold M.bind
 rw [e]
theorem Sim.getO {α γ : Type} {R : (Nat→Addr)→Nat→Heap→α→γ→Prop} {n : Nat} {f : O→M α} {t : Sem γ} (h : ∀ o,H[n]? = some o→Sim C A fl R (f o) t φ H s) : Sim C A fl R (Mp.getO n >>= f) t φ H s:=by
 induction e : H[n]? using Option.casesOn with
 | none=>
  refine Sim.of_stuck ?_
  refine (?_ : M.bind (Mp.getO n) f H = _)
  unfold M.bind Mp.getO
  rw [e]
 | some o=>exact Sim.eq (h o e) (bind_ok (getO_eq e))
theorem only_list {α : Type} {o : O} {f : List V→M α} {H : List O} (h : (match o with | .list xs=>f xs | _=>Mp.stuck) H ≠ .stuck) : ∃ xs,o = .list xs:=by
 induction o <;> first | exact ⟨_,rfl⟩ | exact absurd rfl h
theorem only_tup {α : Type} {o : O} {f : List V→M α} {H : List O} (h : (match o with | .tup xs=>f xs | _=>Mp.stuck) H ≠ .stuck) : ∃ xs,o = .tup xs:=by
 induction o <;> first | exact ⟨_,rfl⟩ | exact absurd rfl h
theorem Sim.getL {α γ : Type} {R : (Nat→Addr)→Nat→Heap→α→γ→Prop} {n : Nat} {f : List V→M α} {t : Sem γ} (h : ∀ xs,H[n]? = some (.list xs)→Sim C A fl R (f xs) t φ H s) : Sim C A fl R (Mp.getO n >>= fun o=>match o with | .list xs=>f xs | _=>Mp.stuck) t φ H s:=
 Sim.getO fun o e=>by
  induction o <;> first | exact h _ e | exact Sim.stuck
theorem Sim.getLL {α γ : Type} {R : (Nat→Addr)→Nat→Heap→α→γ→Prop} {n m : Nat} {f : List V→List V→M α} {t : Sem γ} (h : ∀ xs ys,H[n]? = some (.list xs)→H[m]? = some (.list ys)→Sim C A fl R (f xs ys) t φ H s) :
  Sim C A fl R (Mp.getO n >>= fun o=>Mp.getO m >>= fun p=>match o,p with | .list xs,.list ys=>f xs ys | _,_=>Mp.stuck) t φ H s:=
 Sim.getO fun o e=>Sim.getO fun p e2=>by
  induction o <;> first | exact Sim.stuck | (induction p using Mp.O.casesOn <;> first | exact h _ _ e e2 | exact Sim.stuck)
theorem Sim.opt {α γ δ : Type} {R : (Nat→Addr)→Nat→Heap→α→γ→Prop} {x : Option δ} {f : δ→M α} {t : Sem γ} (h : ∀ a,x = some a→Sim C A fl R (f a) t φ H s) : Sim C A fl R (Mp.opt x >>= f) t φ H s:=by
 induction x using Option.casesOn with
 | none=>exact Sim.of_stuck rfl
 | some a=>exact h a rfl
theorem foldl_arr (l : List (Array Value)) : ∀ a : Array Value,(List.foldl (fun x1 x2=>x1 ++ x2) a l).toList = a.toList ++ (l.map Array.toList).flatten:=by
 induction l with
 | nil=>intro a; simp
 | cons x r ih=>intro a; rw [List.foldl_cons,ih]; simp
theorem arr_rep (vs : List Value) (k : Nat) : List.foldl (fun x1 x2=>x1 ++ x2) #[] (List.replicate (if vs.toArray.isEmpty = true then 0 else k) vs.toArray) = (List.replicate k vs).flatten.toArray:=by
 apply Array.ext'
 rw [foldl_arr]
 induction vs using List.casesOn with
 | nil=>simp
 | cons v r=>simp
theorem len_rep (vs : List Value) (k : Nat) : (List.replicate k vs).flatten.length = vs.length * k:=by
 induction k with
 | zero=>simp
 | succ k ih=>rw [List.replicate_succ,List.flatten_cons,List.length_append,ih,Nat.mul_succ,Nat.add_comm]
theorem all2_rep {α β : Type} {R : α→β→Prop} {xs : List α} {vs : List β} (h : All2 R xs vs) (k : Nat) : All2 R (List.replicate k xs).flatten (List.replicate k vs).flatten:=by
 induction k with
 | zero=>exact .nil
 | succ k ih=>rw [List.replicate_succ,List.replicate_succ,List.flatten_cons,List.flatten_cons]; exact h.append ih
theorem bin_l {o : Bop} {a b : V} (h2 : a.ctorIdx ≠ 2) (h3 : a.ctorIdx ≠ 3) (h5 : a.ctorIdx ≠ 5) : binM o a b = Mp.stuck:=by
 induction o <;> first | rfl | (induction a using Mp.V.casesOn <;> first | rfl | exact absurd rfl h2 | exact absurd rfl h3 | exact absurd rfl h5)
theorem bin_i {o : Bop} {i : Int} {b : V} (h : b.ctorIdx ≠ 2) : binM o (.int i) b = Mp.stuck:=by
 induction o <;> first | rfl | (induction b using Mp.V.casesOn <;> first | rfl | exact absurd rfl h)
theorem bin_b {o : Bop} {i : List Nat} {b : V} (h : b.ctorIdx ≠ 3) : binM o (.bytes i) b = Mp.stuck:=by
 induction o <;> first | rfl | (induction b using Mp.V.casesOn <;> first | rfl | exact absurd rfl h)
theorem bin_r {o : Bop} {i : Nat} {b : V} (h : b.ctorIdx ≠ 5) (h2 : b.ctorIdx ≠ 2) : binM o (.ref i) b = Mp.stuck:=by
 induction o <;> first | rfl | (induction b using Mp.V.casesOn <;> first | rfl | exact absurd rfl h | exact absurd rfl h2)
theorem bin_ii {o : Bop} {a b : Int} {t u : Nat} (r : Rel C φ H s.heap) : Sim C A fl (VH C) (binM o (.int a) (.int b)) (binaryOp (opOf o) (.int a t) (.int b u)) φ H s:=by
 induction o
 case add=>exact Sim.ret rfl r fun Q E k=>P.add_int (k _ _ (.int _ _))
 case sub=>exact Sim.ret rfl r fun Q E k=>P.sub_int (k _ _ (.int _ _))
 case mul=>
  show Sim C A fl (VH C) (if _ then _ else _) _ φ H s
  split
  ·rename_i hb
   exact Sim.ret rfl r fun Q E k=>P.mul_int (k _ _ (.int _ _)) (mulOk hb.1 hb.2)
  ·exact Sim.stuck
 case div=>
  show Sim C A fl (VH C) (if _ then _ else _) _ φ H s
  split
  ·rename_i hb
   exact Sim.ret rfl r fun Q E k=>PyProof.Rows.floordiv_int (by lia) (k _ _ (.int _ _))
  ·exact Sim.stuck
 case mod=>
  show Sim C A fl (VH C) (if _ then _ else _) _ φ H s
  split
  ·rename_i hb
   exact Sim.ret rfl r fun Q E k=>PyProof.Rows.mod_int' (by lia) (k _ _ (.int _ _))
  ·exact Sim.stuck
theorem bin_bb {b c : Array UInt8} {t u : Nat} (r : Rel C φ H s.heap) : Sim C A fl (VH C) (binM .add (.bytes (b.toList.map UInt8.toNat)) (.bytes (c.toList.map UInt8.toNat))) (binaryOp (opOf .add) (.bytes b t) (.bytes c u)) φ H s:=by
 show Sim C A fl (VH C) (if _ then _ else _) _ φ H s
 split
 ·rename_i hb
  simp only [List.length_map,Array.length_toList] at hb
  exact Sim.ret rfl r fun Q E k=>PySem.W.KBy.add_bytes (by lia) fun t' k'=>k _ _ (bytesR _ _ _ (by rw [line_is,Array.size_append]; lia) (by simp))
 ·exact Sim.stuck
theorem bin_rr {n m : Nat} (hn : n < H.length) (hm : m < H.length) (r : Rel C φ H s.heap) : Sim C A fl (VH C) (binM .add (.ref n) (.ref m)) (binaryOp (opOf .add) (.ref (φ n)) (.ref (φ m))) φ H s:=by
 refine Sim.getLL fun xs ys e1 e2=>?_
 show Sim C A fl (VH C) (if _ then _ else _) _ φ H s
 split
 ·rename_i hz
  refine ex2_4 (isList r e1) fun vs ep a1 a2 a3 a4=>?_
  refine ex2_4 (isList r e2) fun ws eq b1 b2 b3 b4=>?_
  refine Sim.push (o:=.list (xs ++ ys)) (ob:=⟨.type "list",none,.seq (vs ++ ws).toArray 0,#[]⟩) rfl r rfl (fun φ' N' hp hN=>.list ((a3.append b3).mono fun _ _ z=>z.mono hp hN) (by rw [List.length_append,← a3.length,← b3.length]; lia)) fun Q E k=>?_
  have hs : vs.length + ws.length ≤ sizeLine:=by rw [← a3.length,← b3.length,line_is]; lia
  refine concat_meets ⟨_,a1,rfl⟩ ⟨_,b1,rfl⟩ noFill_list_add seq_list_add PySem.F.slot_list_add PySem.F.entry_list_add (PySem.F.args_list_add_2 _ _) (PyProof.Rows.list_addW _ _ vs.toArray ws.toArray ep eq none none #[] #[] (by simpa using hs)) ⟨a1,b1,?_⟩
  have e : vs.toArray ++ ws.toArray = (vs ++ ws).toArray:=by simp
  rw [e]
  exact k s.toks
 ·exact Sim.stuck
theorem bin_ri {n : Nat} {i : Int} {u : Nat} (hn : n < H.length) (r : Rel C φ H s.heap) : Sim C A fl (VH C) (binM .mul (.ref n) (.int i)) (binaryOp (opOf .mul) (.ref (φ n)) (.int i u)) φ H s:=by
 refine Sim.getL fun xs e1=>?_
 show Sim C A fl (VH C) (if _ then _ else _) _ φ H s
 split
 ·rename_i hz
  refine ex2_4 (isList r e1) fun vs ep a1 a2 a3 a4=>?_
  have hl : vs.length = xs.length:=a3.length.symm
  have hz1 : vs.length * i.toNat ≤ 10 * 1000:=Nat.mul_le_mul (by lia) (by lia)
  have arr:=arr_rep vs i.toNat
  refine Sim.push (o:=.list (List.replicate i.toNat xs).flatten) (ob:=⟨.type "list",none,.seq (List.foldl (fun x1 x2=>x1 ++ x2) #[] (List.replicate (if vs.toArray.isEmpty = true then 0 else i.toNat) vs.toArray)) 0,#[]⟩) rfl r rfl (fun φ' N' hp hN=>?_) fun Q E k=>?_
  ·rw [arr]
   refine .list ((all2_rep a3 i.toNat).mono fun _ _ z=>z.mono hp hN) ?_
   rw [len_rep]
   lia
  ·refine wpAny_binaryOp_repeat_ref (T:="list") (U:="int") (by decide) ⟨_,a1,rfl⟩ (fun s'=>typeIs_int s' i u) noFill_list_mul F.fills_int_mul F.slot_int_rmul repeat_list F.slot_int_index.lookup
    (call_meets F.slot_int_rmul (typeIs_int s i u) F.entry_int_rmul (F.args_int_rmul_2 _ _) (int___rmul___int_list i u (φ n) vs.toArray ep)
     ⟨a1,rfl,⟨_,a1,rfl⟩,call_meets F.slot_list_mul ⟨_,a1,rfl⟩ F.entry_list_mul (F.args_list_mul_2 _ _)
      (AutoListH.list___mul___list_int_3 (φ n) vs.toArray ep i u (by simp [Builtin.List.listFitsIndex]; lia) (by simp; lia) (by simp [Builtin.List.listTooLong,sizeLine]; lia))
      ⟨a1,k s.toks⟩⟩)
 ·exact Sim.stuck
theorem p_bin {o : Bop} {a b : V} {ca cb : Value} (va : VR C φ H.length a ca) (vb : VR C φ H.length b cb) (r : Rel C φ H s.heap) : Sim C A fl (VH C) (binM o a b) (binaryOp (opOf o) ca cb) φ H s:=by
 by_cases a2 : a.ctorIdx = 2
 ·obtain ⟨i,rfl⟩:=v_int a2
  by_cases b2 : b.ctorIdx = 2
  ·obtain ⟨j,rfl⟩:=v_int b2
   obtain ⟨t,rfl⟩:=vr_int va
   obtain ⟨u,rfl⟩:=vr_int vb
   exact bin_ii r
  ·exact Sim.of_stuck (congrFun (bin_i b2) H)
 by_cases a3 : a.ctorIdx = 3
 ·obtain ⟨i,rfl⟩:=v_bytes a3
  by_cases b2 : b.ctorIdx = 3
  ·obtain ⟨j,rfl⟩:=v_bytes b2
   (refine ex2_3 (vr_bytes va) fun b t z2q z3q hb=>?_; subst z2q; subst z3q)
   (refine ex2_3 (vr_bytes vb) fun c u z4q z5q hc=>?_; subst z4q; subst z5q)
   induction o <;> try exact Sim.stuck
   exact bin_bb r
  ·exact Sim.of_stuck (congrFun (bin_b b2) H)
 by_cases a5 : a.ctorIdx = 5
 ·obtain ⟨n,rfl⟩:=v_ref a5
  obtain ⟨rfl,hn⟩:=vr_ref va
  by_cases b5 : b.ctorIdx = 5
  ·obtain ⟨m,rfl⟩:=v_ref b5
   obtain ⟨rfl,hm⟩:=vr_ref vb
   induction o <;> try exact Sim.stuck
   exact bin_rr hn hm r
  by_cases b2 : b.ctorIdx = 2
  ·obtain ⟨j,rfl⟩:=v_int b2
   obtain ⟨u,rfl⟩:=vr_int vb
   induction o <;> try exact Sim.stuck
   exact bin_ri hn r
  ·exact Sim.of_stuck (congrFun (bin_r b5 b2) H)
 ·exact Sim.of_stuck (congrFun (bin_l a2 a3 a5) H)
end
end Mp
end
section
open PySem PySem.W PySem.Calls PyProof.Rows
set_option autoImplicit false
namespace Mp
open PySem (Expr Stmt Str Value Addr Obj Heap Shared Around World Program Sem Env Scope Arguments FuncBody FuncData Pos)
variable {C : Cx} {A : Around} {fl : Option Addr} {φ : Nat→Addr} {H : List O} {s : Shared} {l : List Env} {d : Nat}
theorem p_neg {a : V} {ca : Value} (va : VR C φ H.length a ca) (r : Rel C φ H s.heap) : Sim C A fl (VH C) (match a with | .int i=>pure (.int (-i)) | _=>Mp.stuck) (unaryOp .USub ca) φ H s:=by
 induction va <;> try exact Sim.stuck
 exact Sim.ret rfl r fun Q E k=>P.neg_int (k _ _ (.int _ _))
noncomputable abbrev BH : (Nat→Addr)→Nat→Heap→Bool→Bool→Prop:=fun _ _ _ a b=>a = b
theorem p_truth {a : V} {ca : Value} (va : VR C φ H.length a ca) (r : Rel C φ H s.heap) : Sim C A fl BH (truth a) (truthy ca) φ H s:=by
 induction va <;> try exact Sim.stuck
 exact fun _=>wpAny_truthy_bool ⟨_,H,φ,rfl,.refl ..,r,rfl⟩
theorem aug_l {o : Bop} {a b : V} (h : a.ctorIdx ≠ 2) : augM o a b = Mp.stuck:=by
 induction o <;> first | rfl | (induction a using Mp.V.casesOn <;> first | rfl | exact absurd rfl h)
theorem aug_r {o : Bop} {i : Int} {b : V} (h : b.ctorIdx ≠ 2) : augM o (.int i) b = Mp.stuck:=by
 induction o <;> first | rfl | (induction b using Mp.V.casesOn <;> first | rfl | exact absurd rfl h)
theorem p_inp {o : Bop} {a b : V} {ca cb : Value} (va : VR C φ H.length a ca) (vb : VR C φ H.length b cb) (r : Rel C φ H s.heap) : Sim C A fl (VH C) (augM o a b) (inplaceOp (opOf o) ca cb) φ H s:=by
 by_cases a2 : a.ctorIdx = 2
 ·obtain ⟨i,rfl⟩:=v_int a2
  by_cases b2 : b.ctorIdx = 2
  ·obtain ⟨j,rfl⟩:=v_int b2
   obtain ⟨t,rfl⟩:=vr_int va
   obtain ⟨u,rfl⟩:=vr_int vb
   induction o <;> try exact Sim.stuck
   ·exact Sim.ret rfl r fun Q E k=>P.iadd_int (k _ _ (.int _ _))
   ·exact Sim.ret rfl r fun Q E k=>P.isub_int (k _ _ (.int _ _))
  ·exact Sim.of_stuck (congrFun (aug_r b2) H)
 ·exact Sim.of_stuck (congrFun (aug_l a2) H)
theorem intsV_cons {x : V} {r : List V} {is : List Int} (e : intsV (x :: r) = some is) : ∃ i js,x = .int i∧intsV r = some js∧is = i :: js:=by
 induction x <;> try (injection e; done)
 exact ex1_2 (Option.map_eq_some_iff.mp e) fun js e1 e2=>in2_3 _ js rfl e1 e2.symm
theorem flatB_cons {x : V} {r : List V} {is : List (List Nat)} (e : flatB (x :: r) = some is) : ∃ i js,x = .bytes i∧flatB r = some js∧is = i :: js:=by
 induction x <;> try (injection e; done)
 exact ex1_2 (Option.map_eq_some_iff.mp e) fun js e1 e2=>in2_3 _ js rfl e1 e2.symm
theorem ints_of {φ : Nat→Addr} {N : Nat} {xs : List V} {vs : List Value} {is : List Int} (h : All2 (VR C φ N) xs vs) (e : intsV xs = some is) : IntsAre vs is:=by
 induction h generalizing is with
 | nil=>injection e with e; subst e; exact .nil
 | cons h _ ih=>
  refine ex2_3 (intsV_cons e) fun i js z e1 e2=>?_
  subst z e2
  refine (vr_int h).elim fun t z=>?_
  subst z
  exact .cons _ _ (ih e1)
theorem intsOf_len {xs : List V} {is : List Int} (e : intsV xs = some is) : is.length = xs.length:=by
 induction xs generalizing is with
 | nil=>injection e with e; subst e; rfl
 | cons x r ih=>exact ex2_3 (intsV_cons e) fun i js _ e1 e2=>(congrArg List.length e2).trans (congrArg Nat.succ (ih e1))
theorem flatOf_len {xs : List V} {is : List (List Nat)} (e : flatB xs = some is) : is.length = xs.length:=by
 induction xs generalizing is with
 | nil=>injection e with e; subst e; rfl
 | cons x r ih=>exact ex2_3 (flatB_cons e) fun i js _ e1 e2=>(congrArg List.length e2).trans (congrArg Nat.succ (ih e1))
theorem flatOf_get {xs : List V} {is : List (List Nat)} (e : flatB xs = some is) (j : Nat) (x : List Nat) (q : is[j]? = some x) : xs[j]? = some (V.bytes x):=by
 induction xs generalizing is j with
 | nil=>injection e with e; subst e; injection q
 | cons y r ih=>
  refine ex2_3 (flatB_cons e) fun i js z e1 e2=>?_
  subst z e2
  induction j using Nat.casesOn with
  | zero=>rw [← Option.some.inj q]; rfl
  | succ j=>exact ih e1 j q
theorem eqAt_bytes (A : Around) (s : Shared) (b c : Array UInt8) (t u : Nat) : SeqAt.EqAt A s (.bytes b t) (.bytes c u) (b.toList == c.toList):=fun prog w E Q h=>by
 unfold eqBool
 refine wpAny_holding ?_
 refine wpAny_ite_split (fun hab=>?_) (fun _=>?_)
 ·have q:=eq_of_beq hab
  injection q with q1 q2
  subst q1
  refine wpAny_bind (wpAny_rule (wpAny_pure ?_))
  simpa using h
 ·exact wpAny_bind (PySem.W.eq_bytes (wpAny_truthy_bool h))
theorem toNat_map_inj {b c : List UInt8} : (b.map UInt8.toNat = c.map UInt8.toNat) ↔ b = c:=by
 constructor
 ·intro h
  exact (List.map_inj_right (fun x y e=>UInt8.toNat_inj.mp e)).mp h
 ·intro h; rw [h]
theorem bytes_beq (b c : Array UInt8) : (b.toList == c.toList) = decide (b.toList.map UInt8.toNat = c.toList.map UInt8.toNat):=by
 by_cases h : b.toList = c.toList
 ·rw [h]; simp
 ·have : ¬ (b.toList.map UInt8.toNat = c.toList.map UInt8.toNat):=fun q=>h (toNat_map_inj.mp q)
  rw [decide_eq_false this]
  exact beq_eq_false_iff_ne.mpr h
noncomputable def itemEq (xs ys : List (List Nat)) (j : Nat) : Bool:=decide (xs[j]? = ys[j]?)
theorem all_itemEq {xs ys : List (List Nat)} (h : xs.length = ys.length) : (List.range xs.length).all (itemEq xs ys) = decide (xs = ys):=by
 by_cases q : xs = ys
 ·subst q
  simp [itemEq]
 ·rw [decide_eq_false q]
  by_cases z : (List.range xs.length).all (itemEq xs ys) = true
  ·exfalso
   apply q
   apply List.ext_getElem? 
   intro j
   by_cases hj : j < xs.length
   ·exact of_decide_eq_true (List.all_eq_true.mp z j (List.mem_range.mpr hj))
   ·rw [List.getElem?_eq_none (Nat.not_lt.mp hj),List.getElem?_eq_none (by lia)]
  ·simpa using z
theorem eqAt_items {N : Nat} {xs ys : List V} {vs ws : List Value} {bs cs : List (List Nat)} (a3 : All2 (VR C φ N) xs vs) (b3 : All2 (VR C φ N) ys ws) (hb : flatB xs = some bs) (hc : flatB ys = some cs)
  (A : Around) (s : Shared) (j : Nat) (h1 : j < vs.toArray.size) (h2 : j < ws.toArray.size) : SeqAt.EqAt A s vs.toArray[j] ws.toArray[j] (itemEq bs cs j):=by
 simp only [List.size_toArray] at h1 h2
 simp only [List.getElem_toArray]
 have l1 : j < bs.length:=by rw [flatOf_len hb,a3.length]; exact h1
 have l2 : j < cs.length:=by rw [flatOf_len hc,b3.length]; exact h2
 refine ex1_2 (a3.get (flatOf_get hb j _ (List.getElem?_eq_getElem l1))) fun v1 e1 r1=>?_
 refine ex1_2 (b3.get (flatOf_get hc j _ (List.getElem?_eq_getElem l2))) fun v2 e2 r2=>?_
 rw [List.getElem?_eq_getElem h1] at e1
 rw [List.getElem?_eq_getElem h2] at e2
 cases e1; cases e2
 unfold itemEq
 rw [List.getElem?_eq_getElem l1,List.getElem?_eq_getElem l2]
 generalize bs[j] = x at r1
 generalize cs[j] = y at r2
 generalize vs[j] = v at r1
 generalize ws[j] = w at r2
 cases r1; cases r2
 rename_i b t _ c u _
 have:=eqAt_bytes A s b c t u
 rw [bytes_beq] at this
 simpa using this
theorem Rdy.roomy (x : Rdy A l d) : A.units + 64 < cLine:=by
 have:=x.uni
 unfold cLine
 lia
theorem list_eq_declines_bytes (l : Addr) (items : Array Value) (n : Nat) (b : Array UInt8) (u : Nat) :
  Meets (Builtin.«list.__eq__» ⟨[.ref l,.bytes b u],[]⟩) (fun _ R s=>s.heap.get? l = some ⟨.type "list",none,.seq items n,#[]⟩∧R (.ok (.ret .notImplemented)) s):=
 .of_wp fun prog w A R s h=>by
  obtain ⟨hp,g,d,tk,os⟩:=s; obtain ⟨hl,h⟩:=h
  have f1 : isSubtype (.type "bytes") (.type "list") = pure false:=by rw [isSubtype_type]; kernel_rfl
  wp_walk using wpAny_loadPart' hl
  exact in1_2 _ rfl h
theorem bytes_eq_declines_list (b : Array UInt8) (u : Nat) (l : Addr) (items : Array Value) (n : Nat) :
  Meets (Builtin.«bytes.__eq__» ⟨[.bytes b u,.ref l],[]⟩) (fun _ R s=>s.heap.get? l = some ⟨.type "list",none,.seq items n,#[]⟩∧R (.ok (.ret .notImplemented)) s):=
 .of_wp fun prog w A R s h=>by
  obtain ⟨hp,g,d,tk,os⟩:=s; obtain ⟨hl,h⟩:=h
  have f1 : isSubtype (.type "list") (.type "bytes") = pure false:=by rw [isSubtype_type]; kernel_rfl
  wp_walk using wpAny_loadPart' hl,wpAny_load hl
  exact in1_2 _ rfl h
theorem eqLL_cases {xs ys : List V} {k : Bool} (e : eqLL xs ys = some k) :
  (∃ a b,intsV xs = some a∧intsV ys = some b∧k = decide (a = b)) ∨ (∃ a b,xs.length = ys.length∧flatB xs = some a∧flatB ys = some b∧k = decide (a = b)) ∨ (xs.length ≠ ys.length∧k = false):=by
 unfold eqLL at e
 split at e
 ·rename_i a b e1 e2
  exact .inl ⟨a,b,e1,e2,by cases e; rfl⟩
 ·split at e
  ·rename_i hl
   split at e
   ·rename_i a b e1 e2
    exact .inr (.inl ⟨a,b,Nat.eq_of_beq_eq_true hl,e1,e2,by cases e; rfl⟩)
   ·injection e
  ·rename_i hl
   refine .inr (.inr ⟨fun q=>hl (by rw [q]; exact Nat.beq_refl _),by cases e; rfl⟩)
theorem eq_lists {n m : Nat} {xs ys : List V} {k : Bool} (rd : Rdy A l d) (r : Rel C φ H s.heap) (e1 : H[n]? = some (.list xs)) (e2 : H[m]? = some (.list ys)) (e : eqLL xs ys = some k)
  {Q : Value→Shared→Prop} {E : Value→Shared→Prop} :
  (Q (.bool k) s→wpAny (model C.prog C.w) A (compareOp .Eq (.ref (φ n)) (.ref (φ m))) Q E s)∧(Q (.bool (!k)) s→wpAny (model C.prog C.w) A (compareOp .NotEq (.ref (φ n)) (.ref (φ m))) Q E s):=by
 refine ex2_4 (isList r e1) fun vs ep a1 a2 a3 a4=>?_
 refine ex2_4 (isList r e2) fun ws eq b1 b2 b3 b4=>?_
 have hu:=rd.roomy
 rcases eqLL_cases e with ⟨a,b,h1,h2,rfl⟩ | ⟨a,b,h0,h1,h2,rfl⟩ | ⟨h0,rfl⟩
 ·exact ⟨fun q=>ke_eq_ints a2 b2 (ints_of a3 h1) (ints_of b3 h2) hu q,fun q=>ke_ne_ints a2 b2 (ints_of a3 h1) (ints_of b3 h2) hu q⟩
 ·have hsz : vs.toArray.size = ws.toArray.size:=by simp only [List.size_toArray]; rw [← a3.length,← b3.length]; exact h0
  have hb : (List.range vs.toArray.size).all (itemEq a b) = decide (a = b):=by
   have : vs.toArray.size = a.length:=by simp only [List.size_toArray]; rw [flatOf_len h1,a3.length]
   rw [this]
   exact all_itemEq (by rw [flatOf_len h1,flatOf_len h2]; exact h0)
  refine ⟨fun q=>SeqAt.RcAt.lists a2 b2 hsz (by lia) (fun j x y=>eqAt_items a3 b3 h1 h2 _ _ j x y) C.prog C.w E Q (by rw [hb]; exact q),fun q=>SeqAt.RcNeAt.lists a2 b2 hsz (by lia) (fun j x y=>eqAt_items a3 b3 h1 h2 _ _ j x y) C.prog C.w E Q (by rw [hb]; exact q)⟩
 ·have hsz : (vs.toArray.size != ws.toArray.size) = true:=by simp only [List.size_toArray,bne_iff_ne]; rw [← a3.length,← b3.length]; exact h0
  exact ⟨fun q=>SeqAt.RcAt.lists_lengths a2 b2 hsz (by lia) C.prog C.w E Q q,fun q=>SeqAt.RcNeAt.lists_lengths a2 b2 hsz (by lia) C.prog C.w E Q q⟩
theorem Sim.val {m : M V} {t : Sem Value} {a : V} {cv : Value} (hm : m H = .ok a H) (hv : VR C φ H.length a cv) (r : Rel C φ H s.heap)
  (h : ∀ (Q : Value→Shared→Prop) (E : Value→Shared→Prop),Q cv s→wpAny (model C.prog C.w) A t Q E s) : Sim C A fl (VH C) m t φ H s:=fun _=>
 h _ _ ⟨a,H,φ,hm,.refl ..,r,hv⟩
theorem is_none_eq {N : Nat} {a : V} {ca : Value} {k : Bool} (va : VR C φ N a ca) (e : isN a = some k) : (ca == Value.none) = k∧plainIs ca .none = true:=by
 induction va <;> first | (injection e with e; rw [← e]; exact ⟨rfl,rfl⟩) | injection e
theorem ceq_ii {a b : Int} {t u : Nat} (r : Rel C φ H s.heap) : Sim C A fl (VH C) (cmpM .eq (.int a) (.int b)) (compareOp (cmpOf .eq) (.int a t) (.int b u)) φ H s:=by
 refine Sim.val rfl (.bool _) r fun Q E k=>P.eq_int ?_
 rw [show (a == b) = decide (a = b) from rfl]
 exact k
theorem cne_ii {a b : Int} {t u : Nat} (r : Rel C φ H s.heap) : Sim C A fl (VH C) (cmpM .ne (.int a) (.int b)) (compareOp (cmpOf .ne) (.int a t) (.int b u)) φ H s:=by
 refine Sim.val rfl (.bool _) r fun Q E k=>P.ne_int ?_
 rw [show (a != b) = !decide (a = b) from rfl]
 exact k
theorem ceq_bb {b c : Array UInt8} {t u : Nat} (r : Rel C φ H s.heap) : Sim C A fl (VH C) (cmpM .eq (.bytes (b.toList.map UInt8.toNat)) (.bytes (c.toList.map UInt8.toNat))) (compareOp (cmpOf .eq) (.bytes b t) (.bytes c u)) φ H s:=by
 refine Sim.val rfl (.bool _) r fun Q E k=>PySem.W.eq_bytes ?_
 rw [bytes_beq]
 exact k
theorem cne_bb {b c : Array UInt8} {t u : Nat} (r : Rel C φ H s.heap) : Sim C A fl (VH C) (cmpM .ne (.bytes (b.toList.map UInt8.toNat)) (.bytes (c.toList.map UInt8.toNat))) (compareOp (cmpOf .ne) (.bytes b t) (.bytes c u)) φ H s:=by
 refine Sim.val rfl (.bool _) r fun Q E k=>PySem.W.ne_bytes ?_
 rw [show (b.toList != c.toList) = !(b.toList == c.toList) from rfl,bytes_beq]
 exact k
theorem ceq_rb {n : Nat} {b : Array UInt8} {t : Nat} (rd : Rdy A l d) (r : Rel C φ H s.heap) : Sim C A fl (VH C) (cmpM .eq (.ref n) (.bytes (b.toList.map UInt8.toNat))) (compareOp (cmpOf .eq) (.ref (φ n)) (.bytes b t)) φ H s:=by
 refine Sim.eq (m':=Mp.getO n >>= fun o=>match o with | .list _=>pure (.bool false) | _=>Mp.stuck) ?_ ?_
 ·refine Sim.getO fun o1 e1=>?_
  induction o1 <;> try exact Sim.stuck
  refine ex2_4 (isList r e1) fun vs ep a1 a2 a3 a4=>?_
  refine Sim.val rfl (.bool _) r fun Q E k=>?_
  exact SeqAt.rc_eq_decline_or (k:=false) (Ta:="list") (Tb:="bytes") ⟨_,a1,rfl⟩ rfl (by decide) (by rw [isSubtype_type]; kernel_rfl) F.slot_list_eq FB.slot_bytes_eq
   (fun _ hq=>call_meets F.slot_list_eq ⟨_,a1,rfl⟩ F.entry_list_eq (F.args_list_eq_2 _ _) (list_eq_declines_bytes _ _ ep b t) ⟨a1,hq⟩)
   (fun _ hq=>call_meets FB.slot_bytes_eq rfl FB.entry_bytes_eq (FB.args_bytes_eq_2 _ _) (bytes_eq_declines_list b t _ _ ep) ⟨a1,hq⟩)
   (fun _ hq=>wpAny_of_eq (rfl : isSame (.ref (φ n)) (.bytes b t) = pure false) hq) (.inr (by have:=rd.roomy; lia)) k
 ·refine (?_ : M.bind (M.bind (Mp.getO n) _) _ H = M.bind (Mp.getO n) _ H)
  unfold M.bind Mp.getO
  cases H[n]? with
  | none=>rfl
  | some o=>induction o <;> rfl
theorem ceq_rr {n m : Nat} (rd : Rdy A l d) (r : Rel C φ H s.heap) : Sim C A fl (VH C) (cmpM .eq (.ref n) (.ref m)) (compareOp (cmpOf .eq) (.ref (φ n)) (.ref (φ m))) φ H s:=by
 refine Sim.eq (m':=Mp.getO n >>= fun o=>Mp.getO m >>= fun p=>match o,p with | .list xs,.list ys=>(Mp.opt (eqLL xs ys) >>= fun k=>pure (.bool k)) | _,_=>Mp.stuck) ?_ ?_
 ·refine Sim.getLL fun xs ys e1 e2=>?_
  refine Sim.opt fun k e=>?_
  exact Sim.val rfl (.bool _) r fun Q E q=>(eq_lists rd r e1 e2 e).1 q
 ·refine (?_ : M.bind (M.bind (Mp.getO n) _) _ H = M.bind (Mp.getO n) _ H)
  unfold M.bind Mp.getO
  cases H[n]? with
  | none=>rfl
  | some o=>
   refine (?_ : M.bind (M.bind (Mp.getO m) _) _ H = M.bind (Mp.getO m) _ H)
   unfold M.bind Mp.getO
   cases H[m]? with
   | none=>rfl
   | some p=>induction o <;> induction p using Mp.O.casesOn <;> rfl
theorem cne_rr {n m : Nat} (rd : Rdy A l d) (r : Rel C φ H s.heap) : Sim C A fl (VH C) (cmpM .ne (.ref n) (.ref m)) (compareOp (cmpOf .ne) (.ref (φ n)) (.ref (φ m))) φ H s:=by
 refine Sim.eq (m':=Mp.getO n >>= fun o=>Mp.getO m >>= fun p=>match o,p with | .list xs,.list ys=>(Mp.opt (eqLL xs ys) >>= fun k=>pure (.bool (!k))) | _,_=>Mp.stuck) ?_ ?_
 ·refine Sim.getLL fun xs ys e1 e2=>?_
  refine Sim.opt fun k e=>?_
  exact Sim.val rfl (.bool _) r fun Q E q=>(eq_lists rd r e1 e2 e).2 q
 ·refine (?_ : M.bind (M.bind (Mp.getO n) _) _ H = M.bind (Mp.getO n) _ H)
  unfold M.bind Mp.getO
  cases H[n]? with
  | none=>rfl
  | some o=>
   refine (?_ : M.bind (M.bind (Mp.getO m) _) _ H = M.bind (Mp.getO m) _ H)
   unfold M.bind Mp.getO
   cases H[m]? with
   | none=>rfl
   | some p=>
    induction o <;> induction p using Mp.O.casesOn <;> try rfl
    rename_i xs ys
    refine (?_ : M.bind (M.bind (Mp.opt (eqLL xs ys)) _) _ H = M.bind (Mp.opt (eqLL xs ys)) _ H)
    cases eqLL xs ys <;> rfl
theorem bind_st {α β : Type} {m : M α} {f : α→M β} (h : m = Mp.stuck) : (m >>= f) H = .stuck:=by rw [h]; rfl
theorem lt_l {a b : V} (h : a.ctorIdx ≠ 2) : cmpM .lt a b = Mp.stuck∧cmpM .le a b = Mp.stuck∧cmpM .gt a b = Mp.stuck∧cmpM .ge a b = Mp.stuck:=by
 induction a <;> first | exact in0_4 rfl rfl rfl rfl | exact absurd rfl h
theorem lt_r {i : Int} {b : V} (h : b.ctorIdx ≠ 2) : cmpM .lt (.int i) b = Mp.stuck∧cmpM .le (.int i) b = Mp.stuck∧cmpM .gt (.int i) b = Mp.stuck∧cmpM .ge (.int i) b = Mp.stuck:=by
 induction b <;> first | exact in0_4 rfl rfl rfl rfl | exact absurd rfl h
theorem eq_l {a b : V} (h2 : a.ctorIdx ≠ 2) (h3 : a.ctorIdx ≠ 3) (h5 : a.ctorIdx ≠ 5) : eqM a b = Mp.stuck∧neM a b = Mp.stuck:=by
 induction a <;> first | exact ⟨rfl,rfl⟩ | exact absurd rfl h2 | exact absurd rfl h3 | exact absurd rfl h5
theorem eq_i {i : Int} {b : V} (h : b.ctorIdx ≠ 2) : eqM (.int i) b = Mp.stuck∧neM (.int i) b = Mp.stuck:=by
 induction b <;> first | exact ⟨rfl,rfl⟩ | exact absurd rfl h
theorem eq_b {i : List Nat} {b : V} (h : b.ctorIdx ≠ 3) : eqM (.bytes i) b = Mp.stuck∧neM (.bytes i) b = Mp.stuck:=by
 induction b <;> first | exact ⟨rfl,rfl⟩ | exact absurd rfl h
theorem eq_r {i : Nat} {b : V} (h : b.ctorIdx ≠ 5) : (b.ctorIdx ≠ 3→eqM (.ref i) b = Mp.stuck)∧neM (.ref i) b = Mp.stuck:=by
 induction b <;> first | exact ⟨fun _=>rfl,rfl⟩ | exact ⟨fun h=>absurd rfl h,rfl⟩ | exact absurd rfl h
theorem is_r {a b : V} (h : b.ctorIdx ≠ 0) : cmpM .is a b = Mp.stuck∧cmpM .isnt a b = Mp.stuck:=by
 induction b <;> first | exact ⟨rfl,rfl⟩ | exact absurd rfl h
theorem v_none {v : V} (h : v.ctorIdx = 0) : v = .none:=V.none.elim (motive:=fun v=>v = .none) v h rfl
theorem vr_none {N : Nat} {c : Value} (h : VR C φ N .none c) : c = .none:=h.inv
theorem cmp_is {a b : V} {ca cb : Value} (va : VR C φ H.length a ca) (vb : VR C φ H.length b cb) (r : Rel C φ H s.heap) : Sim C A fl (VH C) (cmpM .is a b) (compareOp (cmpOf .is) ca cb) φ H s∧Sim C A fl (VH C) (cmpM .isnt a b) (compareOp (cmpOf .isnt) ca cb) φ H s:=by
 by_cases b0 : b.ctorIdx = 0
 ·cases v_none b0
  cases vr_none vb
  refine ⟨Sim.opt fun k e=>?_,Sim.opt fun k e=>?_⟩
  ·obtain ⟨e1,e2⟩:=is_none_eq va e
   refine Sim.val rfl (.bool _) r fun Q E q=>wpAny_is_plain e2 ?_
   rw [e1]
   exact q
  ·obtain ⟨e1,e2⟩:=is_none_eq va e
   refine Sim.val rfl (.bool _) r fun Q E q=>wpAny_isNot_plain e2 ?_
   rw [e1]
   exact q
 ·exact ⟨Sim.of_stuck (congrFun (is_r b0).1 H),Sim.of_stuck (congrFun (is_r b0).2 H)⟩
theorem cmp_lt {a b : V} {ca cb : Value} (va : VR C φ H.length a ca) (vb : VR C φ H.length b cb) (r : Rel C φ H s.heap) : Sim C A fl (VH C) (cmpM .lt a b) (compareOp (cmpOf .lt) ca cb) φ H s∧Sim C A fl (VH C) (cmpM .le a b) (compareOp (cmpOf .le) ca cb) φ H s ∧
  Sim C A fl (VH C) (cmpM .gt a b) (compareOp (cmpOf .gt) ca cb) φ H s∧Sim C A fl (VH C) (cmpM .ge a b) (compareOp (cmpOf .ge) ca cb) φ H s:=by
 by_cases a2 : a.ctorIdx = 2
 ·obtain ⟨i,rfl⟩:=v_int a2
  by_cases b2 : b.ctorIdx = 2
  ·obtain ⟨j,rfl⟩:=v_int b2
   obtain ⟨t,rfl⟩:=vr_int va
   obtain ⟨u,rfl⟩:=vr_int vb
   exact in0_4 (Sim.val rfl (.bool _) r fun Q E k=>P.lt_int k) (Sim.val rfl (.bool _) r fun Q E k=>P.le_int k) (Sim.val rfl (.bool _) r fun Q E k=>P.gt_int k) (Sim.val rfl (.bool _) r fun Q E k=>P.ge_int k)
  ·have q:=lt_r (i:=i) b2
   exact in0_4 (Sim.of_stuck (congrFun q.1 H)) (Sim.of_stuck (congrFun q.2.1 H)) (Sim.of_stuck (congrFun q.2.2.1 H)) (Sim.of_stuck (congrFun q.2.2.2 H))
 ·have q:=lt_l (b:=b) a2
  exact in0_4 (Sim.of_stuck (congrFun q.1 H)) (Sim.of_stuck (congrFun q.2.1 H)) (Sim.of_stuck (congrFun q.2.2.1 H)) (Sim.of_stuck (congrFun q.2.2.2 H))
theorem cmp_eq {a b : V} {ca cb : Value} (rd : Rdy A l d) (va : VR C φ H.length a ca) (vb : VR C φ H.length b cb) (r : Rel C φ H s.heap) : Sim C A fl (VH C) (cmpM .eq a b) (compareOp (cmpOf .eq) ca cb) φ H s∧Sim C A fl (VH C) (cmpM .ne a b) (compareOp (cmpOf .ne) ca cb) φ H s:=by
 by_cases a2 : a.ctorIdx = 2
 ·obtain ⟨i,rfl⟩:=v_int a2
  by_cases b2 : b.ctorIdx = 2
  ·obtain ⟨j,rfl⟩:=v_int b2
   obtain ⟨t,rfl⟩:=vr_int va
   obtain ⟨u,rfl⟩:=vr_int vb
   exact ⟨ceq_ii r,cne_ii r⟩
  ·exact ⟨Sim.of_stuck (bind_st (eq_i b2).1),Sim.of_stuck (bind_st (eq_i b2).2)⟩
 by_cases a3 : a.ctorIdx = 3
 ·obtain ⟨i,rfl⟩:=v_bytes a3
  by_cases b2 : b.ctorIdx = 3
  ·obtain ⟨j,rfl⟩:=v_bytes b2
   (refine ex2_3 (vr_bytes va) fun b t z5q z6q hb=>?_; subst z5q; subst z6q)
   (refine ex2_3 (vr_bytes vb) fun c u z7q z8q hc=>?_; subst z7q; subst z8q)
   exact ⟨ceq_bb r,cne_bb r⟩
  ·exact ⟨Sim.of_stuck (bind_st (eq_b b2).1),Sim.of_stuck (bind_st (eq_b b2).2)⟩
 by_cases a5 : a.ctorIdx = 5
 ·obtain ⟨n,rfl⟩:=v_ref a5
  obtain ⟨rfl,hn⟩:=vr_ref va
  by_cases b5 : b.ctorIdx = 5
  ·obtain ⟨m,rfl⟩:=v_ref b5
   obtain ⟨rfl,hm⟩:=vr_ref vb
   exact ⟨ceq_rr rd r,cne_rr rd r⟩
  refine ⟨?_,Sim.of_stuck (bind_st (eq_r b5).2)⟩
  by_cases b3 : b.ctorIdx = 3
  ·obtain ⟨j,rfl⟩:=v_bytes b3
   (refine ex2_3 (vr_bytes vb) fun b t z9q z10q hb=>?_; subst z9q; subst z10q)
   exact ceq_rb rd r
  ·exact Sim.of_stuck (bind_st ((eq_r b5).1 b3))
 ·exact ⟨Sim.of_stuck (bind_st (eq_l a2 a3 a5).1),Sim.of_stuck (bind_st (eq_l a2 a3 a5).2)⟩
theorem p_cmp {o : Cop} {a b : V} {ca cb : Value} (rd : Rdy A l d) (va : VR C φ H.length a ca) (vb : VR C φ H.length b cb) (r : Rel C φ H s.heap) : Sim C A fl (VH C) (cmpM o a b) (compareOp (cmpOf o) ca cb) φ H s:=by
 induction o with
 | lt=>exact (cmp_lt va vb r).1
 | le=>exact (cmp_lt va vb r).2.1
 | gt=>exact (cmp_lt va vb r).2.2.1
 | ge=>exact (cmp_lt va vb r).2.2.2
 | is=>exact (cmp_is va vb r).1
 | isnt=>exact (cmp_is va vb r).2
 | eq=>exact (cmp_eq rd va vb r).1
 | ne=>exact (cmp_eq rd va vb r).2
end Mp
end
section
open PySem PySem.W PySem.Calls
set_option autoImplicit false
namespace Mp
open PySem (Expr Stmt Str Value Addr Obj Heap Shared Around World Program Sem Env Scope Arguments FuncBody FuncData Pos)
section
variable {C : Cx} {A : Around} {fl : Option Addr} {φ : Nat→Addr} {H : List O} {s : Shared} {l : List Env} {d : Nat}
theorem isTup {n : Nat} {xs : List V} (r : Rel C φ H s.heap) (e : H[n]? = some (.tup xs)) :
  ∃ (vs : List Value),PyProof.Rows.IsTup s.heap (φ n) vs.toArray∧s.heap.IsTuple (φ n) vs.toArray∧All2 (VR C φ H.length) xs vs∧vs.length ≤ 100000:=by
 refine ex1_2 (r.obj n _ e) fun ob h1 h2=>?_
 refine ex3_3 h2.inv fun vs ep sl z x l=>?_
 subst z
 exact in1_4 _ ⟨_,h1,rfl,_,rfl⟩ ⟨_,h1,rfl,_,rfl⟩ x l
theorem idx_some {i : Int} {k : Nat} (e : idx i = some k) : i = (k : Int):=by
 induction i with
 | ofNat n=>cases e; rfl
 | negSucc n=>injection e
theorem getI_l {o i : V} (h5 : o.ctorIdx ≠ 5) (h3 : o.ctorIdx ≠ 3) : getI o i = Mp.stuck:=by
 induction o <;> first | rfl | exact absurd rfl h5 | exact absurd rfl h3
theorem getI_r {n : Nat} {i : V} (h : i.ctorIdx ≠ 2) : getI (.ref n) i = Mp.stuck:=by
 induction i <;> first | rfl | exact absurd rfl h
theorem getI_b {n : List Nat} {i : V} (h : i.ctorIdx ≠ 2) : getI (.bytes n) i = Mp.stuck:=by
 induction i <;> first | rfl | exact absurd rfl h
theorem getI_ri {n : Nat} {i : Int} {t : Nat} (r : Rel C φ H s.heap) : Sim C A fl (VH C) (getI (.ref n) (.int i)) (getItem (.ref (φ n)) (.int i t)) φ H s:=by
 refine Sim.getO fun o1 e1=>?_
 induction o1 <;> try exact Sim.stuck
 ·rename_i xs
  refine Sim.opt fun k ek=>?_
  induction e2 : xs[k]? using Option.casesOn with
  | none=>exact Sim.of_stuck rfl
  | some x=>
   refine ex2_4 (isList r e1) fun vs ep a1 a2 a3 a4=>?_
   refine ex1_2 (a3.get e2) fun cv e3 hv=>?_
   have hi:=idx_some ek
   have hk : k < xs.length:=(List.getElem?_eq_some_iff.mp e2).1
   have:=a3.length
   subst hi
   exact Sim.val (by rfl) hv r fun Q E q=>wpAny_getItem_list a2 (by lia) (by lia) (by simpa using e3) q
 ·rename_i xs
  refine Sim.opt fun k ek=>?_
  induction e2 : xs[k]? using Option.casesOn with
  | none=>exact Sim.of_stuck rfl
  | some x=>
   refine ex1_4 (isTup r e1) fun vs a1 a2 a3 a4=>?_
   refine ex1_2 (a3.get e2) fun cv e3 hv=>?_
   have hi:=idx_some ek
   have hk : k < xs.length:=(List.getElem?_eq_some_iff.mp e2).1
   have:=a3.length
   subst hi
   exact Sim.val (by rfl) hv r fun Q E q=>PyProof.Rows.getItem_tuple a1 (by lia) (by lia) (j:=k) (by simp [seqIndex?]; lia) (by simpa using e3) q
theorem getI_bi {b : Array UInt8} {i : Int} {t u : Nat} (hb : b.size ≤ sizeLine) (r : Rel C φ H s.heap) : Sim C A fl (VH C) (getI (.bytes (b.toList.map UInt8.toNat)) (.int i)) (getItem (.bytes b t) (.int i u)) φ H s:=by
 refine Sim.opt fun k ek=>?_
 induction e2 : (b.toList.map UInt8.toNat)[k]? using Option.casesOn with
 | none=>exact Sim.of_stuck rfl
 | some x=>
  have hi:=idx_some ek
  have hk : k < b.toList.length:=by
   have:=(List.getElem?_eq_some_iff.mp e2).1
   simpa using this
  subst hi
  have hx : x = (b.toList.getD k 0).toNat:=by
   rw [List.getElem?_map,List.getElem?_eq_getElem hk] at e2
   cases e2
   rw [List.getD_eq_getElem?_getD,List.getElem?_eq_getElem hk]; rfl
  subst hx
  refine Sim.ret rfl r fun Q E q=>?_
  have hz : b.toList.length ≤ 1099511627776:=by rw [Array.length_toList]; have:=line_is; lia
  have:=PySem.W.getItem_bytes (prog:=C.prog) (w:=C.w) (A:=A) (E:=E) (s:=s) (t:=t) (u:=u) (l:=b.toList) (i:=(k : Int)) hz (by lia) (by lia) (Q:=Q) (by simpa using q _ _ (.int _ _))
  simpa using this
theorem p_getI {o i : V} {co ci : Value} (vo : VR C φ H.length o co) (vi : VR C φ H.length i ci) (r : Rel C φ H s.heap) : Sim C A fl (VH C) (getI o i) (getItem co ci) φ H s:=by
 by_cases o5 : o.ctorIdx = 5
 ·obtain ⟨n,rfl⟩:=v_ref o5
  obtain ⟨rfl,hn⟩:=vr_ref vo
  by_cases i2 : i.ctorIdx = 2
  ·obtain ⟨i,rfl⟩:=v_int i2
   obtain ⟨t,rfl⟩:=vr_int vi
   exact getI_ri r
  ·exact Sim.of_stuck (congrFun (getI_r i2) H)
 by_cases o3 : o.ctorIdx = 3
 ·obtain ⟨l,rfl⟩:=v_bytes o3
  (refine ex2_3 (vr_bytes vo) fun b t z1q z2q hb=>?_; subst z1q; subst z2q)
  by_cases i2 : i.ctorIdx = 2
  ·obtain ⟨i,rfl⟩:=v_int i2
   obtain ⟨u,rfl⟩:=vr_int vi
   exact getI_bi hb r
  ·exact Sim.of_stuck (congrFun (getI_b i2) H)
 ·exact Sim.of_stuck (congrFun (getI_l o5 o3) H)
theorem cut_eq {α : Type} (xs : List α) (lo hi : Option Nat) :
  (xs.drop ((lo.map Int.ofNat).elim 0 (clipAt xs.length))).take ((hi.map Int.ofNat).elim xs.length (clipAt xs.length) - (lo.map Int.ofNat).elim 0 (clipAt xs.length)) = cut xs lo hi:=by
 have c (k : Nat) : clipAt xs.length (Int.ofNat k) = min k xs.length:=clipAt_nat _ _
 unfold cut
 induction lo using Option.casesOn <;> induction hi using Option.casesOn <;> simp only [Option.map_none,Option.map_some,Option.elim,c,Option.getD_none,Option.getD_some,Nat.sub_zero,List.drop_zero]
 ·rename_i k
  by_cases h : k ≤ xs.length
  ·rw [Nat.min_eq_left h]
  ·rw [Nat.min_eq_right (by lia),List.take_of_length_le (Nat.le_refl _),List.take_of_length_le (by lia)]
 ·rename_i k
  by_cases h : k ≤ xs.length
  ·rw [Nat.min_eq_left h]
  ·rw [Nat.min_eq_right (by lia),List.drop_eq_nil_of_le (Nat.le_refl _),List.drop_eq_nil_of_le (by lia)]; simp
 ·rename_i k j
  by_cases h : k ≤ xs.length
  ·rw [Nat.min_eq_left h]
   by_cases h2 : j ≤ xs.length
   ·rw [Nat.min_eq_left h2]
   ·rw [Nat.min_eq_right (by lia),List.take_of_length_le (by rw [List.length_drop]; exact Nat.le_refl _),List.take_of_length_le (by rw [List.length_drop]; lia)]
  ·have e1 : List.drop k xs = []:=List.drop_eq_nil_of_le (by lia)
   have e2 : List.drop (min k xs.length) xs = []:=List.drop_eq_nil_of_le (by lia)
   rw [e1,e2]; simp
noncomputable def PartR (C : Cx) (φ : Nat→Addr) (N : Nat) (v : Option V) (c : Value) : Prop:=match v with
 | none=>c = .none
 | some v=>VR C φ N v c
theorem bnd_part {N : Nat} {v : Option V} {c : Value} {k : Option Nat} (h : PartR C φ N v c) (e : bnd v = some k) : IsPart c (k.map Int.ofNat):=by
 induction v using Option.casesOn with
 | none=>cases e; cases h; exact .none
 | some v=>
  induction h <;> try (cases e)
  rename_i i t
  unfold bnd at e
  (refine ex1_2 (Option.map_eq_some_iff.mp e) fun n e1 z3q=>?_; subst z3q)
  rw [idx_some e1]
  exact .int _ _
theorem p_slice {o : V} {lo hi : Option V} {co cl cu : Value} {sl : Addr} (vo : VR C φ H.length o co) (vl : PartR C φ H.length lo cl) (vu : PartR C φ H.length hi cu) (hs : s.heap.IsSliceOf sl cl cu .none) (r : Rel C φ H s.heap) :
  Sim C A fl (VH C) (slice o lo hi) (getItem co (.ref sl)) φ H s:=by
 unfold slice
 refine Sim.opt fun kl el=>Sim.opt fun ku eu=>?_
 have pl:=bnd_part vl el
 have pu:=bnd_part vu eu
 induction vo <;> try exact Sim.stuck
 case bytes b t hb=>
  refine Sim.ret rfl r fun Q E q=>?_
  refine getItem_meets (typeIs_bytes _ _ _) (by decide) FB.slot_bytes_getitem FB.entry_bytes_getitem (FB.args_bytes_getitem_2 _ _) (KBc.meets_slice2 b t _ pl pu) ⟨hs,Nat.le_trans (KBc.size_picked_le _ _ _) hb,fun t' k=>q _ _ ?_⟩
  refine bytesR _ _ _ (Nat.le_trans (KBc.size_picked_le _ _ _) hb) ?_
  rw [KBc.picked_eq,← cut_eq]
  simp only [List.length_map,Array.length_toList]
  rw [List.map_take,List.map_drop]
 case ref n hn=>
  refine Sim.getO fun o1 e1=>?_
  have key : ∀ (xs : List V) (vs : List Value),s.heap.IsList (φ n) vs.toArray→All2 (VR C φ H.length) xs vs→vs.length ≤ 100000→Sim C A fl (VH C) (do return .ref (← new (.list (cut xs kl ku)))) (getItem (.ref (φ n)) (.ref sl)) φ H s:=fun xs vs a2 a3 a4=>by
   have e : slicePick vs.toArray (kl.map Int.ofNat) (ku.map Int.ofNat) none = (cut vs kl ku).toArray:=by
    rw [slicePick_plain,← cut_eq]; simp
   refine Sim.push (o:=.list (cut xs kl ku)) (ob:=⟨.type "list",none,.seq (slicePick vs.toArray (kl.map Int.ofNat) (ku.map Int.ofNat) none) 0,#[]⟩) rfl r rfl (fun φ' N' hp hN=>?_) fun Q E k=>?_
   ·rw [e]
    have hc : cut xs kl ku = (xs.drop (kl.getD 0)).take ((ku.getD vs.length) - kl.getD 0):=by unfold cut; rw [a3.length]
    refine .list ?_ ?_
    ·rw [hc]
     exact ((a3.drop _).take _).mono fun _ _ z=>z.mono hp hN
    ·unfold cut
     rw [List.length_take,List.length_drop]; lia
   ·exact wpAny_getItem_list_slice a2 hs pl pu .none (by simp) (k s.toks) (by simp; have:=line_is; lia)
  induction o1 <;> try exact Sim.stuck
  ·refine ex2_4 (isList r e1) fun vs ep a1 a2 a3 a4=>?_
   exact key _ vs a2 a3 a4
  ·refine ex2_5 (isFrz r e1) fun vs ob a1 _ a2 a3 a4=>?_
   exact key _ vs a2 a3 a4
theorem set_eq (vs : List Value) (k : Nat) (v : Value) : vs.toArray.setIfInBounds k v = (vs.set k v).toArray:=by simp
theorem Sim.write {m : M Unit} {t : Sem Unit} {n : Nat} {o' : O} (hm : m H = .ok () (H.set n o')) (r : Rel C φ H s.heap) (hn : n < H.length)
  (h : ∀ (Q : Unit→Shared→Prop) (E : Value→Shared→Prop),(∀ h' tk ob,Heap.SameBut (φ n) s.heap h'→h'.get? (φ n) = some ob→OS C φ H.length h' o' ob→Q () { s with heap:=h',toks:=tk })→wpAny (model C.prog C.w) A t Q E s) :
  Sim C A fl (fun _ _ _ _ _=>True) m t φ H s:=fun _=>
 h _ _ fun h' tk ob hs ha hos=>by
  obtain ⟨x1,x2⟩:=Rel.upd (tk:=tk) r hn hs ha hos
  exact ⟨(),_,φ,hm,x1,x2,trivial⟩
theorem set_exact {prog : Program} {w : World} {a : Addr} {items : Array Value} {n : Nat} {k : Int} {t : Nat} {v : Value} {Q : Unit→Shared→Prop} {E : Value→Shared→Prop} (ho : s.heap.get? a = some ⟨.type "list",none,.seq items n,#[]⟩)
  (h0 : 0 ≤ k) (hfit : k < 2 ^ 63) (hn : k < items.size) (hq : Q () { s with heap:=s.heap.update a (Obj.mapSeq (·.setIfInBounds k.toNat v)) }) : wpAny (model prog w) A (setItem (.ref a) (.int k t) v) Q E s:=by
 have hl : s.heap.IsList a items:=⟨_,ho,rfl,_,rfl⟩
 unfold setItem
 try with_reducible refine wpAny_holding ?_
 first | refine wpAny_bind (wpAny_pure ?_) | skip
 refine wpAny_bind (wpAny_sequenceKey hl.typeIs (by decide) ?_)
 refine wpAny_bind (wpAny_callSpecial?_slot (name:=Str.ofString "__setitem__") hl.typeIs slot_list_setitem
  (wpAny_call_entry slot_list_setitem hl.typeIs entry_list_setitem ?_ (args_list_setitem _ _ _)))
 refine (?_ : wpAny _ _ (Builtin.List.listSubscript? (.int k t) >>= _) _ _ s)
 refine wpAny_bind (wpAny_listSubscript_int (fitsIndex_of h0 hfit) ?_)
 clear hfit
 obtain ⟨j,rfl⟩:=Int.eq_ofNat_of_zero_le h0
 have hj : j < items.size:=by lia
 have hx' : items[j]? = some items[j]:=Array.getElem?_eq_getElem hj
 refine (?_ : wpAny _ _ ((seqItemAt a j >>= fun r=>pure (r.map (j,·))) >>= _) _ _ s)
 refine wpAny_bind (wpAny_bind (wpAny_seqItemAt ho rfl (wpAny_pure ?_)))
 rw [hx']
 refine (?_ : wpAny _ _ (setSeqItemAt a j v >>= _) _ _ s)
 refine wpAny_bind (wpAny_setSeqItemAt ho rfl ?_)
 first
  | exact wpAny_bind (wpAny_pure (wpAny_pure ⟨.none,rfl,wpAny_pure hq⟩))
  | exact wpAny_pure ⟨.none,rfl,wpAny_pure hq⟩
theorem setI_l {o i x : V} (h5 : o.ctorIdx ≠ 5) : setI o i x = Mp.stuck:=by
 induction o <;> first | rfl | exact absurd rfl h5
theorem setI_r {n : Nat} {i x : V} (h : i.ctorIdx ≠ 2) : setI (.ref n) i x = Mp.stuck:=by
 induction i <;> first | rfl | exact absurd rfl h
theorem setI_ri {n : Nat} {i : Int} {t : Nat} {x : V} {cx : Value} (hn : n < H.length) (vx : VR C φ H.length x cx) (r : Rel C φ H s.heap) : Sim C A fl (fun _ _ _ _ _=>True) (setI (.ref n) (.int i) x) (setItem (.ref (φ n)) (.int i t) cx) φ H s:=by
 refine Sim.getL fun xs e1=>?_
 refine Sim.opt fun k ek=>?_
 show Sim C A fl _ (if _ then _ else _) _ φ H s
 split
 ·rename_i hk
  refine ex2_4 (isList r e1) fun vs ep a1 a2 a3 a4=>?_
  have hi:=idx_some ek
  subst hi
  have hl:=a3.length
  refine Sim.write rfl r hn fun Q E q=>set_exact a1 (by lia) (by lia) (by simp; lia) (q _ s.toks _ (Heap.SameBut.update _ _ _) (Heap.get?_update_self _ a1 rfl) ?_)
  refine (?_ : OS C φ H.length _ _ ⟨.type "list",none,.seq (vs.toArray.setIfInBounds k cx) _,#[]⟩)
  rw [set_eq]
  exact .list (a3.set k vx) (by simpa using a4)
 ·exact Sim.stuck
theorem p_setI {o i x : V} {co ci cx : Value} (vo : VR C φ H.length o co) (vi : VR C φ H.length i ci) (vx : VR C φ H.length x cx) (r : Rel C φ H s.heap) :
  Sim C A fl (fun _ _ _ _ _=>True) (setI o i x) (setItem co ci cx) φ H s:=by
 by_cases o5 : o.ctorIdx = 5
 ·obtain ⟨n,rfl⟩:=v_ref o5
  obtain ⟨rfl,hn⟩:=vr_ref vo
  by_cases i2 : i.ctorIdx = 2
  ·obtain ⟨i,rfl⟩:=v_int i2
   obtain ⟨t,rfl⟩:=vr_int vi
   exact setI_ri hn vx r
  ·exact Sim.of_stuck (congrFun (setI_r i2) H)
 ·exact Sim.of_stuck (congrFun (setI_l o5) H)
end
section
variable {C : Cx} {A : Around} {fl : Option Addr} {φ : Nat→Addr} {H : List O} {s : Shared} {l : List Env} {d : Nat}
noncomputable def tyV (C : Cx) : V→Value | .ty k=>.type (tyName k) | .cls c=>.ref (C.ca c) | _=>.none
structure Good (C : Cx) : Prop where
 low : C.Low
 kin : ∀ a o,C.K.lookup a = some o→C.base.get? a = some o
 isP : ∀ k t b,k < 4→isPr k t = some b→kitOne C.K (.type (prName k)) (tyV C t) = some b
 isI : ∀ c t b,Nat.blt c 6 = true→Nat.beq c 1 = false→isOf c t = some b→kitOne C.K (.ref (C.ca c)) (tyV C t) = some b
 gat : ∀ c,Nat.blt c 6 = true→Nat.beq c 1 = false→plainGet C.K (C.ca c) "__class__" = true∧hasDictIn C.K (C.ca c) = true∧findIn C.K (.ref (C.ca c)) "__class__" = some (some (.builtin "object.__class__"))∧mroIn C.K (C.ca c) (.type "object") = some true
 anI : ∀ m m',m < 60→m' < 60→C.an m = C.an m'→m = m'
 set : ∀ c,Nat.blt c 6 = true→Nat.beq c 1 = false→findIn C.K (.ref (C.ca c)) "__setattr__" = some (some (.builtin "object.__setattr__"))∧plainOver C.K (C.ca c) = true
 att : ∀ c m,okA methT c m = true→findIn C.K (.ref (C.ca c)) (C.an m) = some none
 met : ∀ c m k,Nat.blt c 6 = true→methT c m = some k→findIn C.K (.ref (C.ca c)) (C.an m) = some (some (.ref (C.fa k)))∧typeIn C.K (.ref (C.fa k)) = some (.type "function")
 gcl : specialIn C.K (.builtin "object.__class__") "__get__" = some (some (.builtin "getset_descriptor.__get__"))∧takesIn C.K (.builtin "object.__class__") = some true
theorem Good.K_in (G : Good C) {h : Heap} (r : Rel C φ H h) : C.K.In h:=fun a o e=>r.base a o (G.kin a o e)
theorem attrs_at {n : Nat} {fs : List (Nat × V)} (r : Rel C φ H s.heap) (e : H[n]? = some (.attrs fs)) :
  ∃ (es : List DictEntry) (ep : Nat),s.heap.get? (φ n) = some (dictOf es ep)∧All2 (AttR C φ H.length) fs es∧es.length ≤ 200:=by
 refine ex1_2 (r.obj n _ e) fun ob h1 h2=>?_
 refine ex2_3 h2.inv fun es ep z x l=>?_
 subst z
 exact in2_3 _ _ h1 x l
theorem inst_at {n c dd : Nat} (r : Rel C φ H s.heap) (e : H[n]? = some (.inst c dd)) : ∃ sl,s.heap.get? (φ n) = some ⟨.ref (C.ca c),some (φ dd),.plain,sl⟩∧dd < H.length:=by
 refine ex1_2 (r.obj n _ e) fun ob h1 h2=>?_
 refine ex1_2 h2.inv fun sl z x=>?_
 subst z
 exact in1_2 _ h1 x
theorem isa_val {m : M V} {v c : Value} {t : Value} {P : Heap→Prop} {b : Bool} (hm : m H = .ok (.bool b) H) (r : Rel C φ H s.heap) (X : C.K.In s.heap) (Z : KitX C.K v t P) (p : P s.heap) (e : kitOne C.K t c = some b) (hx : v ≠ .builtin "__main__.__loader__#opaque") :
  Sim C A fl (VH C) m (call (.builtin "isinstance") [v,c]) φ H s:=
 Sim.ret hm r fun Q E k=>kia_one Z X p e hx fun tk=>k _ tk (.bool b)
theorem p_isa {v t : V} {cv ct : Value} (G : Good C) (vv : VR C φ H.length v cv) (vt : VR C φ H.length t ct) (r : Rel C φ H s.heap) :
  Sim C A fl (VH C) (isTyM v t >>= fun b=>pure (.bool b)) (call (.builtin "isinstance") [cv,ct]) φ H s:=by
 have X:=G.K_in r
 have ht : ∀ k b,isPr k t = some b→ct = tyV C t:=fun k b e=>by induction vt <;> first | rfl | cases e
 have ht' : ∀ k b,isOf k t = some b→ct = tyV C t:=fun k b e=>by induction vt <;> first | rfl | cases e
 induction vv <;> try exact Sim.of_stuck rfl
 case none=>
  refine Sim.opt fun b e=>?_
  rw [ht _ _ e]
  exact isa_val rfl r X kitx_none trivial (G.isP 0 t b (by decide) e) (by intro q; injection q)
 case bool x=>
  refine Sim.opt fun b e=>?_
  rw [ht _ _ e]
  exact isa_val rfl r X kitx_bool trivial (G.isP 1 t b (by decide) e) (by intro q; injection q)
 case int x u=>
  refine Sim.opt fun b e=>?_
  rw [ht _ _ e]
  exact isa_val rfl r X kitx_int trivial (G.isP 2 t b (by decide) e) (by intro q; injection q)
 case bytes x u _=>
  refine Sim.opt fun b e=>?_
  rw [ht _ _ e]
  exact isa_val rfl r X kitx_bytes trivial (G.isP 3 t b (by decide) e) (by intro q; injection q)
 case ref n hn=>
  induction e1 : H[n]? using Option.casesOn with
  | none=>
   refine Sim.of_stuck ?_
   refine (?_ : M.bind (M.bind (Mp.getO n) _) _ H = _)
   unfold M.bind Mp.getO
   rw [e1]
  | some o=>
   induction o <;> try (refine Sim.of_stuck ?_; show M.bind (M.bind (Mp.getO n) _) _ H = _; unfold M.bind Mp.getO; rw [e1]; rfl)
   rename_i c dd
   by_cases hc : (Nat.blt c 6 && !Nat.beq c 1) = true
   ·induction e2 : isOf c t using Option.casesOn with
    | none=>refine Sim.of_stuck ?_; show M.bind (M.bind (Mp.getO n) _) _ H = _; unfold M.bind Mp.getO; rw [e1]; dsimp only; rw [if_pos hc,e2]; rfl
    | some b=>
     rw [ht' _ _ e2]
     refine ex1_2 (inst_at r e1) fun sl a1 a2=>?_
     have hc':=hc
     rw [Bool.and_eq_true] at hc'
     have hb : Nat.beq c 1 = false:=by simpa using hc'.2
     refine ex0_4 (G.gat c hc'.1 hb) fun g1 g2 g3 g4=>?_
     refine ex1_2 (r.obj dd H[dd] (List.getElem?_eq_getElem a2)) fun od b1 _=>?_
     have I : InstAt s.heap (φ n) ⟨.ref (C.ca c),some (φ dd),.plain,sl⟩ (C.ca c) (some od):=⟨a1,rfl,rfl,b1⟩
     exact isa_val (by show M.bind (M.bind (Mp.getO n) _) _ H = _; unfold M.bind Mp.getO; rw [e1]; dsimp only; rw [if_pos hc,e2]; rfl) r X (kitx_own g1 g2 g3 G.gcl.1 G.gcl.2 g4) I (G.isI c t b hc'.1 hb e2) (by intro q; injection q)
   ·refine Sim.of_stuck ?_; show M.bind (M.bind (Mp.getO n) _) _ H = _; unfold M.bind Mp.getO; rw [e1]; dsimp only; rw [if_neg hc]; rfl
end
section
variable {C : Cx} {A : Around} {fl : Option Addr} {φ : Nat→Addr} {H : List O} {s : Shared} {l : List Env} {d : Nat}
theorem perm_insertI (x : Int) : ∀ l : List Int,(insertI x l).Perm (x :: l)
 | []=>.refl _
 | y :: r=>by
  unfold insertI
  split
  ·exact .refl _
  ·exact (List.Perm.cons y (perm_insertI x r)).trans (List.Perm.swap x y r)
theorem perm_sortI : ∀ l : List Int,(sortI l).Perm l
 | []=>.refl _
 | x :: r=>(perm_insertI x _).trans ((perm_sortI r).cons x)
theorem sorted_insertI (x : Int) : ∀ l : List Int,l.Pairwise (· ≤ ·)→(insertI x l).Pairwise (· ≤ ·)
 | [],_=>by simp [insertI]
 | y :: r,h=>by
  unfold insertI
  obtain ⟨h1,h2⟩:=List.pairwise_cons.mp h
  split
  ·rename_i q
   exact List.pairwise_cons.mpr ⟨fun z hz=>by
    rcases List.mem_cons.mp hz with rfl | hz
    ·lia
    ·have:=h1 z hz; lia,h⟩
  ·rename_i q
   refine List.pairwise_cons.mpr ⟨fun z hz=>?_,sorted_insertI x r h2⟩
   rcases List.mem_cons.mp ((perm_insertI x r).mem_iff.mp hz) with rfl | hz
   ·lia
   ·exact h1 z hz
theorem sorted_sortI : ∀ l : List Int,(sortI l).Pairwise (· ≤ ·)
 | []=>.nil
 | x :: r=>sorted_insertI x _ (sorted_sortI r)
theorem eq_of_sorted {l m : List Int} (p : l.Perm m) (h1 : l.Pairwise (· ≤ ·)) (h2 : m.Pairwise (· ≤ ·)) : l = m:=
 p.eq_of_pairwise (fun a b _ _ h h'=>by lia) h1 h2
theorem vr_ints {N : Nat} {vs : List Value} {is : List Int} (h : PyProof.Rows.IntsAre vs is) : All2 (VR C φ N) (is.map V.int) vs:=by
 induction h with
 | nil=>exact .nil
 | cons i t _ ih=>exact .cons (.int i t) ih
theorem blt0 {v : V} (h3 : v.ctorIdx ≠ 3) (h5 : v.ctorIdx ≠ 5) : bltM 0 [v] = Mp.stuck:=by
 induction v <;> first | rfl | exact absurd rfl h3 | exact absurd rfl h5
theorem blt2 {v : V} (h : v.ctorIdx ≠ 2) : bltM 2 [v] = Mp.stuck:=by
 induction v <;> first | rfl | exact absurd rfl h
theorem blt4l {v w : V} {r : List V} (h : v.ctorIdx ≠ 2) : bltM 4 (v :: w :: r) = Mp.stuck:=by
 induction v <;> first | rfl | exact absurd rfl h
theorem blt4r {i : Int} {w : V} (h : w.ctorIdx ≠ 2) : bltM 4 [.int i,w] = Mp.stuck:=by
 induction w <;> first | rfl | exact absurd rfl h
theorem blt5 {v : V} (h : v.ctorIdx ≠ 5) : bltM 5 [v] = Mp.stuck:=by
 induction v <;> first | rfl | exact absurd rfl h
theorem blt_one {k : Nat} {v w : V} {r : List V} (hk : k = 0 ∨ k = 2 ∨ k = 5) : bltM k (v :: w :: r) = Mp.stuck:=by
 rcases hk with rfl | rfl | rfl <;> induction v <;> rfl
theorem p_len_b {b : Array UInt8} {t : Nat} (hb : b.size ≤ sizeLine) (r : Rel C φ H s.heap) : Sim C A fl (VH C) (bltM 0 [.bytes (b.toList.map UInt8.toNat)]) (call (.builtin (bltName 0)) [.bytes b t]) φ H s:=by
 refine Sim.ret rfl r fun Q E q=>PySem.W.len_bytes (by have:=line_is; lia) ?_
 have:=q (.int b.size (s.toks + 1)) (s.toks + 1 + 1) (by have:=VR.int (C:=C) (φ:=φ) (N:=H.length) (((b.toList.map UInt8.toNat).length : Nat) : Int) (s.toks + 1); simpa using this)
 exact this
theorem p_len_l {n : Nat} (r : Rel C φ H s.heap) : Sim C A fl (VH C) (bltM 0 [.ref n]) (call (.builtin (bltName 0)) [.ref (φ n)]) φ H s:=by
 refine Sim.getL fun xs e1=>?_
 refine ex2_4 (isList r e1) fun vs ep a1 a2 a3 a4=>?_
 refine Sim.ret rfl r fun Q E q=>PyProof.Rows.len_list a2 (by simp; lia) ?_
 rw [List.size_toArray,← a3.length]
 exact q _ _ (.int _ _)
theorem p_abs {i : Int} {t : Nat} (r : Rel C φ H s.heap) : Sim C A fl (VH C) (bltM 2 [.int i]) (call (.builtin (bltName 2)) [.int i t]) φ H s:=by
 refine Sim.ret rfl r fun Q E q=>PyProof.Rows.call_abs_int fun u tk=>q _ _ ?_
 have e : ((i.natAbs : Nat) : Int) = if i < 0 then -i else i:=by split <;> lia
 rw [← e]
 exact .int _ _
theorem p_min {a b : Int} {t u : Nat} (rd : Rdy A l d) (r : Rel C φ H s.heap) : Sim C A fl (VH C) (bltM 4 [.int a,.int b]) (call (.builtin (bltName 4)) [.int a t,.int b u]) φ H s:=by
 refine Sim.grew rfl r fun Q E q=>min_two_ints rd.han fun h' tk g=>q _ h' tk g ?_
 split <;> exact .int _ _
theorem p_sorted {n : Nat} (r : Rel C φ H s.heap) : Sim C A fl (VH C) (bltM 5 [.ref n]) (call (.builtin (bltName 5)) [.ref (φ n)]) φ H s:=by
 refine Sim.getL fun xs e1=>?_
 show Sim C A fl _ (if _ then _ else _) _ φ H s
 split
 ·rename_i hz
  refine Sim.opt fun is ei=>?_
  refine ex2_4 (isList r e1) fun vs ep a1 a2 a3 a4=>?_
  refine Sim.made (o:=.list ((sortI is).map V.int)) rfl r fun Q E q=>PyProof.Rows.sorted_ints a2 (ints_of a3 ei) (by rw [← a3.length]; exact hz) fun out ns' x1 x2 x3=>?_
  obtain ⟨e,he⟩:=PyProof.Rows.sortedAll_at s.heap vs out
  refine q _ _ s.toks _ (fun b o z=>PyProof.Rows.sortedAll_old z) he ?_ fun φ' N' hp hN=>?_
  ·induction z : s.heap.get? (s.heap.objs.size + 1) using Option.casesOn with
   | none=>rfl
   | some o=>exact absurd (Heap.lt_size z) (Nat.not_lt.mpr (Nat.le_succ _))
  ·have en : ns' = sortI is:=eq_of_sorted (x2.trans (perm_sortI is).symm) x3 (sorted_sortI is)
   subst en
   have hl : out.toList.length ≤ 100000:=by
    have e1:=(vr_ints (C:=C) (φ:=φ) (N:=0) x1).length
    have e2:=(perm_sortI is).length_eq
    have e3:=intsOf_len ei
    rw [List.length_map] at e1
    rw [← e1,e2,e3]; lia
   have:=OS.list (C:=C) (φ:=φ') (N:=N') (h:=PyProof.Rows.sortedAll s.heap vs out) (ep:=e) (vr_ints x1) hl
   simpa using this
 ·exact Sim.stuck
theorem p_blt {k : Nat} {as : List V} {cas : List Value} (G : Good C) (rd : Rdy A l d) (va : All2 (VR C φ H.length) as cas) (r : Rel C φ H s.heap) :
  Sim C A fl (VH C) (bltM k as) (call (.builtin (bltName k)) cas) φ H s:=by
 match k with
 | 0=>
  induction va with
  | nil=>exact Sim.stuck
  | @cons v1 _ _ _ h1 t=>
   induction t with
   | cons _ _=>exact Sim.of_stuck (congrFun (blt_one (.inl rfl)) H)
   | nil=>
    by_cases a3 : v1.ctorIdx = 3
    ·obtain ⟨b,rfl⟩:=v_bytes a3
     (refine ex2_3 (vr_bytes h1) fun b t z1q z2q hb=>?_; subst z1q; subst z2q)
     exact p_len_b hb r
    by_cases a5 : v1.ctorIdx = 5
    ·obtain ⟨n,rfl⟩:=v_ref a5
     obtain ⟨rfl,hn⟩:=vr_ref h1
     exact p_len_l r
    ·exact Sim.of_stuck (congrFun (blt0 a3 a5) H)
 | 1=>
  induction va with
  | nil=>exact Sim.stuck
  | @cons v1 _ _ _ h1 t=>
   induction t with
   | nil=>exact Sim.of_stuck (by induction v1 <;> rfl)
   | cons v2 t=>
    induction t with
    | cons _ _=>exact Sim.of_stuck (by induction v1 <;> rfl)
    | nil=>exact Sim.eq (p_isa G h1 v2 r) (by induction v1 <;> rfl)
 | 2=>
  induction va with
  | nil=>exact Sim.stuck
  | @cons v1 _ _ _ h1 t=>
   induction t with
   | cons _ _=>exact Sim.of_stuck (congrFun (blt_one (.inr (.inl rfl))) H)
   | nil=>
    by_cases a2 : v1.ctorIdx = 2
    ·obtain ⟨i,rfl⟩:=v_int a2
     obtain ⟨t,rfl⟩:=vr_int h1
     exact p_abs r
    ·exact Sim.of_stuck (congrFun (blt2 a2) H)
 | 3=>exact Sim.stuck
 | 4=>
  induction va with
  | nil=>exact Sim.stuck
  | @cons v1 _ _ _ h1 t=>
   induction t with
   | nil=>exact Sim.of_stuck (by induction v1 <;> rfl)
   | @cons v2 _ _ _ h2 t=>
    by_cases a2 : v1.ctorIdx = 2
    ·obtain ⟨i,rfl⟩:=v_int a2
     obtain ⟨k1,rfl⟩:=vr_int h1
     induction t with
     | cons _ _=>exact Sim.of_stuck (by induction v2 <;> rfl)
     | nil=>
      by_cases b2 : v2.ctorIdx = 2
      ·obtain ⟨j,rfl⟩:=v_int b2
       obtain ⟨u,rfl⟩:=vr_int h2
       exact p_min rd r
      ·exact Sim.of_stuck (congrFun (blt4r b2) H)
    ·exact Sim.of_stuck (congrFun (blt4l a2) H)
 | 5=>
  induction va with
  | nil=>exact Sim.stuck
  | @cons v1 _ _ _ h1 t=>
   induction t with
   | cons _ _=>exact Sim.of_stuck (congrFun (blt_one (.inr (.inr rfl))) H)
   | nil=>
    by_cases a5 : v1.ctorIdx = 5
    ·obtain ⟨n,rfl⟩:=v_ref a5
     obtain ⟨rfl,hn⟩:=vr_ref h1
     exact p_sorted r
    ·exact Sim.of_stuck (congrFun (blt5 a5) H)
 | k + 6=>exact Sim.stuck
theorem p_ty {k : Nat} {as : List V} {cas : List Value} (va : All2 (VR C φ H.length) as cas) (r : Rel C φ H s.heap) :
  Sim C A fl (VH C) (tyM k as) (call (.type (tyName k)) cas) φ H s:=by
 unfold tyM
 split
 ·rename_i n
  cases va with
  | cons v1 t=>
   cases t
   cases v1
   refine Sim.getL fun xs e1=>?_
   refine ex2_4 (isList r e1) fun vs ep a1 a2 a3 a4=>?_
   refine Sim.made (o:=.list xs) rfl r fun Q E q=>call_list_seq _ (.inl rfl) a1 rfl rfl (fun h' c' g ha=>q _ h' s.toks _ g ha (get_size_none _) fun φ' N' hp hN=>?_) (by simp; have:=line_is; lia)
   exact .list (a3.mono fun _ _ z=>z.mono hp hN) a4
 ·exact Sim.stuck
theorem p_append {n : Nat} {x : V} {cx : Value} (hn : n < H.length) (vx : VR C φ H.length x cx) (r : Rel C φ H s.heap) :
  Sim C A fl (VH C) (bltMeth (.ref n) 1000 [x]) (call (.builtin "list.append") [.ref (φ n),cx]) φ H s:=by
 refine Sim.getL fun xs e1=>?_
 show Sim C A fl _ (if _ then _ else _) _ φ H s
 split
 ·rename_i hz
  refine ex2_4 (isList r e1) fun vs ep a1 a2 a3 a4=>?_
  have hl:=a3.length
  intro _
  refine wpAny_list_append_plain ⟨ep,a1⟩ (fun h' hp hs=>?_) (by simp; have:=line_is; lia)
  obtain ⟨e,he⟩:=hp
  have hos : OS C φ H.length h' (.list (xs ++ [x])) ⟨.type "list",none,.seq (vs ++ [cx]).toArray e,#[]⟩:=.list (a3.append (.cons vx .nil)) (by simp; lia)
  have ee : vs.toArray.push cx = (vs ++ [cx]).toArray:=by simp
  rw [ee] at he
  obtain ⟨x1,x2⟩:=Rel.upd (tk:=s.toks) r hn hs he hos
  exact ⟨.none,_,φ,rfl,x1,x2,.none⟩
 ·exact Sim.stuck
theorem p_pop {n : Nat} (hn : n < H.length) (r : Rel C φ H s.heap) :
  Sim C A fl (VH C) (bltMeth (.ref n) 1001 []) (call (.builtin "list.pop") [.ref (φ n)]) φ H s:=by
 refine Sim.getO fun o1 e1=>?_
 induction o1 <;> try exact Sim.stuck
 rename_i xs
 induction e2 : xs.getLast? using Option.casesOn with
 | none=>exact Sim.of_stuck (by show (match xs.getLast? with | some x=>_ | none=>_ : M V) H = _; rw [e2]; rfl)
 | some x=>
  refine Sim.eq (m':=fun H=>.ok x (H.set n (.list xs.dropLast))) ?_ (by show (match xs.getLast? with | some x=>_ | none=>_ : M V) H = _; rw [e2]; rfl)
  refine ex2_4 (isList r e1) fun vs ep a1 a2 a3 a4=>?_
  have hl:=a3.length
  intro _
  rw [List.getLast?_eq_getElem?] at e2
  refine ex1_2 (a3.get e2) fun cx e3 vx=>?_
  have hpos : 0 < vs.length:=by
   have:=(List.getElem?_eq_some_iff.mp e3).1
   lia
  refine call_meets F.slot_list_pop ⟨_,a1,rfl⟩ F.entry_list_pop (F.args_list_pop_1 _) (MeetsSeq.list_pop_last (φ n) vs.toArray ep cx (by rw [List.size_toArray,← hl]; simpa using e3) (by simp; have:=line_is; lia)) ⟨a1,?_⟩
  have ge:=Heap.get?_update_self (Obj.mapSeq fun ys=>ys.eraseIdxIfInBounds (vs.toArray.size - 1)) a1 rfl
  have ea : vs.toArray.eraseIdxIfInBounds (vs.toArray.size - 1) = vs.dropLast.toArray:=by
   have hne : vs ≠ []:=by intro q; rw [q] at hpos; exact absurd hpos (Nat.lt_irrefl _)
   conv=>lhs; rw [← List.dropLast_concat_getLast hne]
   have:=PySem.W.kl_erase vs.dropLast [] (vs.getLast hne)
   simp only [List.append_nil] at this
   rw [← this]
   simp
  have hos : OS C φ H.length (s.heap.update (φ n) (Obj.mapSeq fun ys=>ys.eraseIdxIfInBounds (vs.toArray.size - 1))) (.list xs.dropLast) (Obj.mapSeq (fun ys=>ys.eraseIdxIfInBounds (vs.toArray.size - 1)) ⟨.type "list",none,.seq vs.toArray ep,#[]⟩):=by
   refine (?_ : OS C φ H.length _ _ ⟨.type "list",none,.seq (vs.toArray.eraseIdxIfInBounds (vs.toArray.size - 1)) _,#[]⟩)
   rw [ea]
   refine .list ?_ (by simp; lia)
   rw [List.dropLast_eq_take,List.dropLast_eq_take,hl]
   exact a3.take _
  obtain ⟨x1,x2⟩:=Rel.upd (tk:=s.toks) r hn (Heap.SameBut.update _ _ _) ge hos
  exact ⟨x,_,φ,rfl,x1,x2,by rw [List.length_set]; exact vx⟩
end
section
variable {C : Cx} {A : Around} {fl : Option Addr} {φ : Nat→Addr} {H : List O} {s : Shared} {l : List Env} {d : Nat}
theorem isStr_key {p : Nat × V} {e : DictEntry} {N m : Nat} (G : Good C) (hm : m < 60) (x : AttR C φ N p e) : e.key.isStr (C.an m) = Nat.beq p.1 m:=by
 (refine ex0_3 x fun h1 z1q _=>?_; clear x; obtain ⟨t,h2⟩:=z1q)
 rw [h2]
 refine (?_ : (C.an p.1 == C.an m) = _)
 by_cases q : p.1 = m
 ·rw [q,Nat.beq_refl]; exact beq_self_eq_true _
 ·have : C.an p.1 ≠ C.an m:=fun z=>q (G.anI _ _ h1 hm z)
  rw [beq_eq_false_iff_ne.mpr this]
  induction z : Nat.beq p.1 m with
  | false=>rfl
  | true=>exact absurd (Nat.eq_of_beq_eq_true z) q
theorem noRef {N : Nat} {fs : List (Nat × V)} {es : List DictEntry} (h : All2 (AttR C φ N) fs es) : es.any (·.refKey) = false:=by
 induction h with
 | nil=>rfl
 | cons x _ ih=>
  (refine ex0_3 x fun _ z2q _=>?_; clear x; obtain ⟨t,h2⟩:=z2q)
  rw [List.any_cons,ih]
  simp [DictEntry.refKey,h2]
theorem look_some {N m : Nat} {fs : List (Nat × V)} {es : List DictEntry} {v : V} (G : Good C) (hm : m < 60) (h : All2 (AttR C φ N) fs es) (e : lookA m fs = some v) : ∃ cv,W.getL (C.an m) es = some (some cv)∧VR C φ N v cv:=by
 unfold W.getL
 induction h with
 | nil=>injection e
 | cons x _ ih=>
  rw [List.find?_cons,isStr_key G hm x]
  unfold lookA at e
  split at e
  ·rename_i q
   rw [q]
   cases e
   exact in1_2 _ rfl x.2.2
  ·rename_i q
   rw [Bool.not_eq_true] at q
   rw [q]
   refine ex1_2 (ih e) fun cv h1 h2=>?_
   refine in1_2 cv ?_ h2
   split at h1
   ·rename_i e' he
    dsimp only
    rw [he]; exact h1
   ·split at h1 <;> cases h1
theorem look_none {N m : Nat} {fs : List (Nat × V)} {es : List DictEntry} (G : Good C) (hm : m < 60) (h : All2 (AttR C φ N) fs es) (e : lookA m fs = none) : W.getL (C.an m) es = some none:=by
 have hf : es.find? (·.key.isStr (C.an m)) = none:=by
  induction h with
  | nil=>rfl
  | cons x _ ih=>
   rw [List.find?_cons,isStr_key G hm x]
   unfold lookA at e
   split at e
   ·injection e
   ·rename_i q
    rw [Bool.not_eq_true] at q
    rw [q]
    exact ih e
 unfold W.getL
 rw [hf,noRef h]; rfl
theorem put_all {N m : Nat} {fs : List (Nat × V)} {es : List DictEntry} {v : V} {cv : Value} {hsh : Int} {t : Nat} (G : Good C) (hm : m < 60) (h : All2 (AttR C φ N) fs es) (vv : VR C φ N v cv) :
  All2 (AttR C φ N) (putA m v fs) (W.putL (C.an m) hsh (.str (C.an m) t) cv es):=by
 induction h with
 | nil=>exact .cons ⟨hm,⟨t,rfl⟩,vv⟩ .nil
 | cons x r ih=>
  unfold putA W.putL
  rw [isStr_key G hm x]
  split
  ·rename_i q
   exact .cons ⟨x.1,x.2.1,vv⟩ r
  ·exact .cons x ih
theorem put_len (m : Nat) (v : V) : ∀ fs : List (Nat × V),(putA m v fs).length ≤ fs.length + 1
 | []=>by simp [putA]
 | p :: r=>by
  unfold putA
  split
  ·simp
  ·have:=put_len m v r
   simp; lia
theorem handed {N : Nat} {v : V} {cv : Value} (h : VR C φ N v cv) : handedIn cv = true:=by
 induction h <;> try rfl
 rename_i k
 match k with
 | 0=>decide +kernel
 | 1=>decide +kernel
 | 2=>decide +kernel
 | 3=>decide +kernel
 | 4=>decide +kernel
 | _ + 5=>exact (show handedIn (.builtin "sorted") = true by decide +kernel)
theorem okA_and {c m : Nat} (h : okA methT c m = true) : Nat.blt c 6 = true∧m < 60∧methT c m = none:=by
 unfold okA at h
 rw [Bool.and_eq_true,Bool.and_eq_true] at h
 refine in0_3 h.1.1 (Nat.le_of_ble_eq_true h.1.2) ?_
 induction q : methT c m using Option.casesOn with
 | none=>rfl
 | some k=>rw [q] at h; cases h.2
theorem inst_of {n c dd : Nat} {fs : List (Nat × V)} (r : Rel C φ H s.heap) (e1 : H[n]? = some (.inst c dd)) (e2 : H[dd]? = some (.attrs fs)) :
  ∃ (es : List DictEntry) (ep : Nat) (sl : Array (Option Value)),InstAt s.heap (φ n) ⟨.ref (C.ca c),some (φ dd),.plain,sl⟩ (C.ca c) (some (W.dictOf es ep))∧s.heap.get? (φ dd) = some (W.dictOf es ep) ∧
   All2 (AttR C φ H.length) fs es∧es.length ≤ 200:=by
 refine ex1_2 (inst_at r e1) fun sl a1 a2=>?_
 refine ex2_3 (attrs_at r e2) fun es ep b1 b2 b3=>?_
 exact in3_4 es ep sl ⟨a1,rfl,rfl,b1⟩ b1 b2 b3
theorem Sim.attrsOf {α γ : Type} {R : (Nat→Addr)→Nat→Heap→α→γ→Prop} {n : Nat} {f : List (Nat × V)→M α} {t : Sem γ} (h : ∀ fs,H[n]? = some (.attrs fs)→Sim C A fl R (f fs) t φ H s) : Sim C A fl R (Mp.attrsOf n >>= f) t φ H s:=by
 induction e : H[n]? using Option.casesOn with
 | none=>
  refine Sim.of_stuck ?_
  refine (?_ : M.bind (M.bind (Mp.getO n) _) f H = _)
  unfold M.bind Mp.getO
  rw [e]
 | some o=>
  induction o <;> try (refine Sim.of_stuck ?_; show M.bind (M.bind (Mp.getO n) _) f H = _; unfold M.bind Mp.getO; rw [e]; rfl)
  rename_i fs
  refine Sim.eq (h fs e) ?_
  refine (?_ : M.bind (M.bind (Mp.getO n) _) f H = _)
  unfold M.bind Mp.getO
  rw [e]; rfl
theorem p_getA_inst {n c dd m : Nat} {fs : List (Nat × V)} {v : V} (G : Good C) (r : Rel C φ H s.heap) (e1 : H[n]? = some (.inst c dd)) (e2 : H[dd]? = some (.attrs fs)) (ok : okA methT c m = true) (hb : Nat.beq c 1 = false) (e3 : lookA m fs = some v) {mm : M V} (hm : mm H = .ok v H) :
  ∀ b,Sim C A fl (VH C) mm (getAttr (.ref (φ n)) (C.an m) b) φ H s:=fun b=>by
 refine ex0_3 (okA_and ok) fun o1 o2 o3=>?_
 refine ex3_4 (inst_of r e1 e2) fun es ep sl I b1 b2 b3=>?_
 refine ex0_4 (G.gat c o1 hb) fun g1 g2 g3 g4=>?_
 refine ex1_2 (look_some G o2 b2 e3) fun cv c1 c2=>?_
 refine Sim.ret hm r fun Q E q=>?_
 exact get_value (G.K_in r) I (plainGet_of g1).1 (findObj_own g2 (G.att c m ok) rfl (by rw [lookIn_dict]; exact c1)) (handed c2) (q _ _ c2)
theorem putL_size (name : Str) (hsh : Int) (key v : Value) : ∀ es : List DictEntry,(W.putL name hsh key v es).length ≤ es.length + 1
 | []=>by simp [W.putL]
 | e :: r=>by
  unfold W.putL
  split
  ·simp
  ·have:=putL_size name hsh key v r
   simp; lia
theorem set_own_dict {prog : Program} {w : World} {K : Frag} {x Cl dx : Addr} {es : List DictEntry} {n : Nat} {sl : Array (Option Value)} {name : Str} {v : Value} {Q : Unit→Shared→Prop} {E : Value→Shared→Prop} {data : Data}
  (X : K.In s.heap) (I : InstAt s.heap x ⟨.ref Cl,some dx,data,sl⟩ Cl (some (W.dictOf es n))) (hs : findIn K (.ref Cl) "__setattr__" = some (some (.builtin "object.__setattr__"))) (hp : plainOver K Cl = true) (ht : takerIn K Cl name = some none)
  (hh : hasDictIn K Cl = true) (hl : (W.getL name es).isSome = true) (hz : es.length ≤ 900)
  (h : Q () { s with heap:=s.heap.update dx (Obj.putName name (PyData.keyHash w.params name) (.str name (s.toks + 1)) v),toks:=s.toks + 2 }) : wpAny (model prog w) A (setAttr (.ref x) name v) Q E s:=by
 refine set_plain X I hs ?_
 have X1 : K.In ({ s with toks:=s.toks + 1 } : Shared).heap:=X
 refine osa_open (s:={ s with toks:=s.toks + 1 }) X1 I hp ht fun b=>?_
 refine ex1_2 (any_some hh) fun cd hc hd'=>?_
 have D:=I.dict
 dsimp only at D
 have e1:=putName_dict name (PyData.keyHash w.params name) (.str name (s.toks + 1)) v es n
 have D' : (s.heap.update dx (Obj.putName name (PyData.keyHash w.params name) (.str name (s.toks + 1)) v)).get? dx = some (W.dictOf (W.putL name (PyData.keyHash w.params name) (.str name (s.toks + 1)) v es) (putN name es n)):=by
  rw [← e1]
  exact Heap.get?_update_self _ D (by rw [e1]; rfl)
 have hx:=I.at_
 refine wpAny_bind (wpAny_pure (wpAny_bind (wpAny_bind (wpAny_loadPart hx (wpAny_bind ((looks_clsIn X1 hc).here ?_))))))
 rw [hd']
 refine wpAny_pure (a:=some dx) (wpAny_bind (wpAny_pure (wpAny_bind ?_)))
 unfold nsSet
 refine wpAny_bind (wpAny_bind (wpAny_askSetting (wpAny_pure (wpAny_bind (wpAny_mkText (wpAny_bind (wpAny_loadPart D ?_)))))))
 dsimp only
 have c : (!es.toArray.any (·.key.isStr name) && es.toArray.any (·.refKey)) = false:=by
  rw [← Array.any_toList,← Array.any_toList]
  unfold W.getL at hl
  split at hl
  ·rename_i en he
   rw [List.any_eq_true.mpr ⟨en,List.mem_of_find?_eq_some he,List.find?_some he⟩]; rfl
  ·split at hl
   ·injection hl
   ·rename_i z; rw [Bool.not_eq_true] at z; rw [z,Bool.and_false]
 rw [aRefKeyMayBeTheName_at,c]
 refine wpAny_updatePart D ?_
 refine wpAny_bind (wpAny_lookBehind D' (pastItsLine_dict (by
  have:=putL_size name (PyData.keyHash w.params name) (.str name (s.toks + 1)) v es
  rw [List.size_toArray,sizeLine_eq]; lia)) ?_)
 exact wpAny_pure h
theorem p_setA_inst {n c dd m : Nat} {fs : List (Nat × V)} {v : V} {cv : Value} (G : Good C) (r : Rel C φ H s.heap) (e1 : H[n]? = some (.inst c dd)) (e2 : H[dd]? = some (.attrs fs)) (ok : okA methT c m = true) (hb : Nat.beq c 1 = false) (hz : fs.length < 100)
  (vv : VR C φ H.length v cv) {mm : M Unit} (hm : mm H = .ok () (H.set dd (.attrs (putA m v fs)))) : Sim C A fl (fun _ _ _ _ _=>True) mm (setAttr (.ref (φ n)) (C.an m) cv) φ H s:=by
 refine ex0_3 (okA_and ok) fun o1 o2 o3=>?_
 refine ex3_4 (inst_of r e1 e2) fun es ep sl I b1 b2 b3=>?_
 refine ex0_4 (G.gat c o1 hb) fun g1 g2 g3 g4=>?_
 obtain ⟨s1,s2⟩:=G.set c o1 hb
 have hd : dd < H.length:=(List.getElem?_eq_some_iff.mp e2).1
 have hl : (W.getL (C.an m) es).isSome = true:=by
  induction q : lookA m fs using Option.casesOn with
  | none=>rw [look_none G o2 b2 q]; rfl
  | some v=>refine ex1_2 (look_some G o2 b2 q) fun cv c1 _=>?_; rw [c1]; rfl
 have ht : takerIn C.K (C.ca c) (C.an m) = some none:=by
  unfold takerIn
  rw [G.att c m ok]; rfl
 intro _
 refine set_own_dict (G.K_in r) I s1 s2 ht g2 hl (by lia) ?_
 have e:=putName_dict (C.an m) (PyData.keyHash C.w.params (C.an m)) (.str (C.an m) (s.toks + 1)) cv es ep
 have D:=Heap.get?_update_self (Obj.putName (C.an m) (PyData.keyHash C.w.params (C.an m)) (.str (C.an m) (s.toks + 1)) cv) b1 (by rw [e]; rfl)
 rw [e] at D
 have hos : OS C φ H.length (s.heap.update (φ dd) (Obj.putName (C.an m) (PyData.keyHash C.w.params (C.an m)) (.str (C.an m) (s.toks + 1)) cv)) (.attrs (putA m v fs)) (W.dictOf (W.putL (C.an m) (PyData.keyHash C.w.params (C.an m)) (.str (C.an m) (s.toks + 1)) cv es) (putN (C.an m) es ep)):=by
  have pa:=put_all (hsh:=PyData.keyHash C.w.params (C.an m)) (t:=s.toks + 1) G o2 b2 vv
  refine .attrs pa ?_
  rw [← pa.length]
  have:=put_len m v fs
  lia
 obtain ⟨x1,x2⟩:=Rel.upd (tk:=s.toks + 2) r hd (Heap.SameBut.update _ _ _) D hos
 exact ⟨(),_,φ,hm,x1,x2,trivial⟩
noncomputable def ExcGet (C : Cx) : Prop:=∀ {A : Around} {fl : Option Addr} {φ : Nat→Addr} {H : List O} {s : Shared} {n m dd : Nat} {up : Bool} {fs : List (Nat × V)} {v : V} {mm : M V},Rel C φ H s.heap→H[n]? = some (.exc 1 (some dd) up)→H[dd]? = some (.attrs fs) →
 okA methT 1 m = true→lookA m fs = some v→mm H = .ok v H→∀ b,Sim C A fl (VH C) mm (getAttr (.ref (φ n)) (C.an m) b) φ H s
noncomputable def ExcSet (C : Cx) : Prop:=∀ {A : Around} {fl : Option Addr} {φ : Nat→Addr} {H : List O} {s : Shared} {n m dd : Nat} {up : Bool} {fs : List (Nat × V)} {v : V} {cv : Value} {mm : M Unit},Rel C φ H s.heap→H[n]? = some (.exc 1 (some dd) up)→H[dd]? = some (.attrs fs) →
 okA methT 1 m = true→fs.length < 100→VR C φ H.length v cv→mm H = .ok () (H.set dd (.attrs (putA m v fs)))→Sim C A fl (fun _ _ _ _ _=>True) mm (setAttr (.ref (φ n)) (C.an m) cv) φ H s
noncomputable def ExcSet0 (C : Cx) : Prop:=∀ {A : Around} {fl : Option Addr} {φ : Nat→Addr} {H : List O} {s : Shared} {n m : Nat} {up : Bool} {v : V} {cv : Value} {mm : M Unit},Rel C φ H s.heap→H[n]? = some (.exc 1 none up) →
 okA methT 1 m = true→VR C φ H.length v cv→mm H = .ok () ((H ++ [O.attrs [(m,v)]]).set n (.exc 1 (some H.length) up))→Sim C A fl (fun _ _ _ _ _=>True) mm (setAttr (.ref (φ n)) (C.an m) cv) φ H s
theorem p_getA {m : Nat} {v : V} {cv : Value} (G : Good C) (XG : ExcGet C) (vv : VR C φ H.length v cv) (r : Rel C φ H s.heap) (b : Bool) : Sim C A fl (VH C) (getA methT v m) (getAttr cv (C.an m) b) φ H s:=by
 induction vv <;> try exact Sim.stuck
 rename_i n hn
 refine Sim.getO fun o1 e1=>?_
 induction o1 <;> try exact Sim.stuck
 case inst c dd=>
  show Sim C A fl _ (if _ then _ else _) _ φ H s
  split
  ·rename_i ok
   rw [Bool.and_eq_true] at ok
   refine Sim.attrsOf fun fs e2=>?_
   induction e3 : lookA m fs using Option.casesOn with
   | none=>exact Sim.of_stuck rfl
   | some v=>exact p_getA_inst G r e1 e2 ok.1 (by simpa using ok.2) e3 rfl b
  ·exact Sim.stuck
 case exc c dd up=>
  induction dd using Option.casesOn with
  | none=>exact Sim.stuck
  | some dd=>
   show Sim C A fl _ (if _ then _ else _) _ φ H s
   split
   ·rename_i ok
    rw [Bool.and_eq_true] at ok
    have hc : c = 1:=Nat.eq_of_beq_eq_true ok.2
    subst hc
    refine Sim.attrsOf fun fs e2=>?_
    induction e3 : lookA m fs using Option.casesOn with
    | none=>exact Sim.of_stuck rfl
    | some v=>exact XG r e1 e2 ok.1 e3 rfl b
   ·exact Sim.stuck
theorem p_setA {m : Nat} {v x : V} {cv cx : Value} (G : Good C) (XS : ExcSet C) (XS0 : ExcSet0 C) (vv : VR C φ H.length v cv) (vx : VR C φ H.length x cx) (r : Rel C φ H s.heap) : Sim C A fl (fun _ _ _ _ _=>True) (setA methT v m x) (setAttr cv (C.an m) cx) φ H s:=by
 induction vv <;> try exact Sim.stuck
 rename_i n hn
 refine Sim.getO fun o1 e1=>?_
 induction o1 <;> try exact Sim.stuck
 case inst c dd=>
  show Sim C A fl _ (if _ then _ else _) _ φ H s
  split
  ·rename_i ok
   rw [Bool.and_eq_true] at ok
   refine Sim.attrsOf fun fs e2=>?_
   show Sim C A fl _ (if _ then _ else _) _ φ H s
   split
   ·rename_i hz
    exact p_setA_inst G r e1 e2 ok.1 (by simpa using ok.2) hz vx rfl
   ·exact Sim.stuck
  ·exact Sim.stuck
 case exc c dd up=>
  induction dd using Option.casesOn with
  | none=>
   show Sim C A fl _ (if _ then _ else _) _ φ H s
   split
   ·rename_i ok
    rw [Bool.and_eq_true] at ok
    have hc : c = 1:=Nat.eq_of_beq_eq_true ok.2
    subst hc
    exact XS0 r e1 ok.1 vx rfl
   ·exact Sim.stuck
  | some dd=>
   show Sim C A fl _ (if _ then _ else _) _ φ H s
   split
   ·rename_i ok
    rw [Bool.and_eq_true] at ok
    have hc : c = 1:=Nat.eq_of_beq_eq_true ok.2
    subst hc
    refine Sim.attrsOf fun fs e2=>?_
    show Sim C A fl _ (if _ then _ else _) _ φ H s
    split
    ·rename_i hz
     exact XS r e1 e2 ok.1 hz vx rfl
    ·exact Sim.stuck
   ·exact Sim.stuck
end
section
variable {C : Cx} {A : Around} {fl : Option Addr} {φ : Nat→Addr} {H : List O} {s : Shared} {l : List Env} {d : Nat}
theorem Rel.own {h : Heap} {o : O} {ob : Obj} {a : Addr} (r : Rel C φ H h) (ha : h.get? a = some ob) (hF : Free C a) (hu : ∀ n,n < H.length→φ n ≠ a) (hnf : ∀ vs,ob.data ≠ .fields vs)
  (hos : OS C (addφ φ H.length a) (H.length + 1) h o ob) : Rel C (addφ φ H.length a) (H ++ [o]) h:=by
 have hp : ∀ n,n < H.length→addφ φ H.length a n = φ n:=fun n hn=>addφ_lt hn
 have hc : ∀ cd,CodeAt h cd→(∀ n,n < H.length→φ n ≠ cd)→CodeAt h cd∧∀ n,n < H.length + 1→addφ φ H.length a n ≠ cd:=fun cd x y=>by
  refine ⟨x,fun n hn q=>?_⟩
  by_cases z : n < H.length
  ·exact y n z (by rw [← hp n z]; exact q)
  ·have : n = H.length:=by lia
   subst this
   rw [addφ_at] at q
   (refine ex3_3 x fun o vs _ e e2 _=>?_; clear x)
   rw [← q,ha] at e; cases e
   exact hnf _ e2
 refine ⟨fun n x e=>?_,fun n m hn hm q=>?_,fun n hn=>?_,r.base,fun P hP=>?_⟩
 ·simp only [List.length_append,List.length_cons,List.length_nil]
  by_cases z : n < H.length
  ·rw [List.getElem?_append_left z] at e
   refine ex1_2 (r.obj n x e) fun ob' h1 h2=>?_
   exact in1_2 ob' (by rw [hp n z]; exact h1) (h2.mono hp (Nat.le_succ _) fun cd x y=>hc cd x y)
  ·have z' : n = H.length:=by
    have:=(List.getElem?_eq_some_iff.mp e).1
    simp only [List.length_append,List.length_cons,List.length_nil] at this
    lia
   subst z'
   simp at e
   subst e
   exact in1_2 ob (by rw [addφ_at]; exact ha) hos
 ·simp only [List.length_append,List.length_cons,List.length_nil] at hn hm
  by_cases z : n < H.length <;> by_cases y : m < H.length
  ·rw [hp n z,hp m y] at q; exact r.inj n m z y q
  ·have y' : m = H.length:=by lia
   subst y'
   rw [hp n z,addφ_at] at q
   exact absurd q (hu n z)
  ·have z' : n = H.length:=by lia
   subst z'
   rw [hp m y,addφ_at] at q
   exact absurd q.symm (hu m y)
  ·lia
 ·simp only [List.length_append,List.length_cons,List.length_nil] at hn
  by_cases z : n < H.length
  ·rw [hp n z]; exact r.new n z
  ·have z' : n = H.length:=by lia
   subst z'
   rw [addφ_at]; exact hF
 ·refine ex1_3 (r.tabs P hP) fun ps h1 h2 h3=>?_
  refine in1_3 ps h1 h2 (fun pos c e=>?_)
  refine ex1_3 (h3 pos c e) fun cd a1 a3 a4=>?_
  obtain ⟨b1,b2⟩:=hc cd a4 a3
  exact in1_3 cd a1 (by simpa using b2) b1
theorem Ext.own {φ' : Nat→Addr} {H' : List O} {s' : Shared} {o : O} {a : Addr} (x : Ext C φ H s φ' H' s') (hf : s.heap.get? a = none) : Ext C φ H s (addφ φ' H'.length a) (H' ++ [o]) s':=by
 refine ⟨by simp; exact Nat.le_succ_of_le x.len,fun n hn=>?_,fun n h1 h2=>?_,x.keep,x.live,x.gens,x.os⟩
 ·rw [addφ_lt (Nat.lt_of_lt_of_le hn x.len)]; exact x.phi n hn
 ·by_cases z : n < H'.length
  ·rw [addφ_lt z]; exact x.fresh n h1 z
  ·have : n = H'.length:=by simp at h2; lia
   subst this
   rw [addφ_at]; exact hf
theorem cells_many {s' : Shared} {φ₀ : Nat→Addr} {H₀ : List O} : ∀ (cv : List (Option V)) (as : List Addr) {φ : Nat→Addr} {H : List O},Ext C φ₀ H₀ s φ H s'→(∀ a,s.heap.get? a = none→Free C a)→Rel C φ H s'.heap →
  All2 (fun v a=>s.heap.get? a = none∧(∀ n,n < H.length→φ n ≠ a)∧∃ ob cvv,s'.heap.get? a = some ob∧ob.data = .cell cvv∧OptR (VR C φ H.length) v cvv) cv as→as.Nodup →
  ∃ φ' ns,newCells cv H = .ok ns (H ++ cv.map O.cell)∧Ext C φ₀ H₀ s φ' (H ++ cv.map O.cell) s'∧Rel C φ' (H ++ cv.map O.cell) s'.heap∧(∀ n,n < H.length→φ' n = φ n) ∧
   All2 (fun n a=>n < H.length + cv.length∧φ' n = a) ns as∧(∀ b,(∀ n,n < H.length→φ n ≠ b)→b ∉ as→∀ n,n < H.length + cv.length→φ' n ≠ b)
 | [],as,φ,H,x,hf,r,a2,nd=>by
  cases a2
  refine in2_6 φ [] ?_ (by simpa using x) (by simpa using r) (fun _ _=>rfl) .nil (fun b hb _ n hn=>hb n (by simpa using hn))
  refine (?_ : Res.ok [] H = _)
  simp
 | v :: cv,as,φ,H,x,hf,r,a2,nd=>by
  cases a2 with
  | @cons _ a _ as hv ht=>
   obtain ⟨h1,h2,ob,cvv,h3,h4,h5⟩:=hv
   obtain ⟨nd1,nd2⟩:=List.nodup_cons.mp nd
   have hos : OS C (addφ φ H.length a) (H.length + 1) s'.heap (.cell v) ob:=by
    obtain ⟨cl,dd,dat,sl⟩:=ob
    subst h4
    exact .cell (h5.mono fun _ _ z=>z.mono (fun n hn=>addφ_lt hn) (Nat.le_succ _))
   have r1:=r.own h3 (hf a h1) h2 (by intro vs q; rw [h4] at q; injection q) hos
   have x1:=x.own (o:=.cell v) h1
   have ht' : All2 (fun u b=>s.heap.get? b = none∧(∀ n,n < (H ++ [O.cell v]).length→addφ φ H.length a n ≠ b)∧∃ ob cvv,s'.heap.get? b = some ob∧ob.data = .cell cvv∧OptR (VR C (addφ φ H.length a) (H ++ [O.cell v]).length) u cvv) cv as:=by
    have key : ∀ (cv : List (Option V)) (bs : List Addr),a ∉ bs→All2 (fun v a=>s.heap.get? a = none∧(∀ n,n < H.length→φ n ≠ a)∧∃ ob cvv,s'.heap.get? a = some ob∧ob.data = .cell cvv∧OptR (VR C φ H.length) v cvv) cv bs →
      All2 (fun u b=>s.heap.get? b = none∧(∀ n,n < (H ++ [O.cell v]).length→addφ φ H.length a n ≠ b)∧∃ ob cvv,s'.heap.get? b = some ob∧ob.data = .cell cvv∧OptR (VR C (addφ φ H.length a) (H ++ [O.cell v]).length) u cvv) cv bs:=by
     intro cv bs hb q
     induction q with
     | nil=>exact .nil
     | @cons u b _ _ q _ ih=>
      obtain ⟨q1,q2,ob,cvv,q3,q4,q5⟩:=q
      refine .cons ⟨q1,fun n hn e=>?_,ob,cvv,q3,q4,q5.mono fun _ _ z=>z.mono (fun n hn=>addφ_lt hn) (by simp)⟩ (ih fun z=>hb (.tail _ z))
      by_cases z : n < H.length
      ·rw [addφ_lt z] at e; exact q2 n z e
      ·have : n = H.length:=by simp at hn; lia
       subst this
       rw [addφ_at] at e
       exact hb (e ▸ .head _)
    exact key cv as nd1 ht
   refine ex2_6 (cells_many cv as x1 hf r1 ht' nd2) fun φ' ns k1 k2 k3 k4 k5 k6=>?_
   have e : H ++ [O.cell v] ++ cv.map O.cell = H ++ (v :: cv).map O.cell:=by simp
   rw [e] at k1 k2 k3
   refine in2_6 φ' (H.length :: ns) ?_ k2 k3 (fun n hn=>?_) (.cons ⟨by simp,?_⟩ (k5.mono fun n b z=>⟨by have:=z.1; simp at this ⊢; lia,z.2⟩)) (fun b hb hm n hn=>?_)
   ·refine (?_ : M.bind (new (.cell v)) (fun n=>M.bind (newCells cv) fun r=>M.pure (n :: r)) H = _)
    unfold M.bind new M.pure
    dsimp only
    rw [k1]
   ·rw [k4 n (by simp; lia),addφ_lt hn]
   ·rw [k4 _ (by simp),addφ_at]
   ·refine k6 b (fun m hm'=>?_) (fun z=>hm (.tail _ z)) n (by simp at hn ⊢; lia)
    by_cases z : m < H.length
    ·rw [addφ_lt z]; exact hb m z
    ·have : m = H.length:=by simp at hm'; lia
     subst this
     rw [addφ_at]
     exact fun q=>hm (q ▸ .head _)
theorem cellsFrom_app : ∀ (names : List (Str × PySem.NameKind)) (n : Nat) (acc : List (Str × Addr)),cellsFrom n names acc = cellsFrom n names [] ++ acc
 | [],n,acc=>rfl
 | (name,kind) :: r,n,acc=>by
  unfold cellsFrom
  split
  ·rw [cellsFrom_app r (n + 1) ((name,n) :: acc),cellsFrom_app r (n + 1) [(name,n)]]; simp
  ·exact cellsFrom_app r n acc
theorem lookup_app {α : Type} {x : Str} {c : α} : ∀ {l m : List (Str × α)},l.lookup x = some c→(l ++ m).lookup x = some c
 | (k,v) :: r,m,h=>by
  rw [List.cons_append,List.lookup_cons]
  rw [List.lookup_cons] at h
  split
  ·rename_i e; rw [e] at h; exact h
  ·rename_i e; rw [e] at h; exact lookup_app h
theorem lookup_app_none {α : Type} {x : Str} : ∀ {l m : List (Str × α)},l.lookup x = none→(l ++ m).lookup x = m.lookup x
 | [],m,_=>rfl
 | (k,v) :: r,m,h=>by
  rw [List.cons_append,List.lookup_cons]
  rw [List.lookup_cons] at h
  split
  ·rename_i e; rw [e] at h; injection h
  ·rename_i e; rw [e] at h; exact lookup_app_none h
theorem cellsFrom_has {x : Str} : ∀ (names : List (Str × PySem.NameKind)) (n : Nat),(x,PySem.NameKind.cell) ∈ names→∃ c,(cellsFrom n names []).lookup x = some c
 | (name,kind) :: r,n,h=>by
  unfold cellsFrom
  split
  ·rw [cellsFrom_app]
   rcases List.mem_cons.mp h with e | h
   ·cases e
    induction q : (cellsFrom (n + 1) r []).lookup x using Option.casesOn with
    | some c=>exact ⟨c,lookup_app q⟩
    | none=>exact ⟨n,by rw [lookup_app_none q]; simp [List.lookup_cons]⟩
   ·obtain ⟨c,hc⟩:=cellsFrom_has r (n + 1) h
    exact ⟨c,lookup_app hc⟩
  ·rename_i hk
   rcases List.mem_cons.mp h with e | h
   ·cases e; exact absurd rfl hk
   ·exact cellsFrom_has r n h
theorem cellsFrom_only {x : Str} {c : Addr} : ∀ (names : List (Str × PySem.NameKind)) (n : Nat),(cellsFrom n names []).lookup x = some c→(x,PySem.NameKind.cell) ∈ names
 | [],n,h=>by injection h
 | (name,kind) :: r,n,h=>by
  unfold cellsFrom at h
  split at h
  ·rename_i hk
   rw [cellsFrom_app] at h
   induction q : (cellsFrom (n + 1) r []).lookup x using Option.casesOn with
   | some c'=>exact .tail _ (cellsFrom_only r (n + 1) q)
   | none=>
    rw [lookup_app_none q,List.lookup_cons] at h
    split at h
    ·rename_i e
     have : kind = .cell:=eq_of_beq hk
     rw [this,beq_iff_eq.mp e]; exact .head _
    ·injection h
  ·exact .tail _ (cellsFrom_only r n h)
theorem bindParams {M : Model} {E : Value→Shared→Prop} {s₀ : Shared} {env : Env} {own rest : List (Str × Addr)} (hcs : env.cells = own ++ rest) (f : Str × Value→PUnit→Sem (ForInStep PUnit)) (hf : ∀ n v u,f (n,v) u = (do storeName env n v; pure (.yield ⟨⟩))) (hk : env.scope.kind = .function) :
  ∀ (binds : List (Str × Value)) (m cm : Str→Option Value) (s : Shared) (Q : PUnit→Shared→Prop),InCallC s₀ env.locals m own cm s →
   (∀ x ∈ binds,env.kindOf x.1 = some .local ∨ (env.kindOf x.1 = some .cell∧(own.lookup x.1).isSome = true)) →
   (∀ s',InCallC s₀ env.locals (bindL env.kindOf binds m) own (bindC env.kindOf binds cm) s'→Q ⟨⟩ s')→wpAny M A (forIn binds ⟨⟩ f) Q E s
 | [],m,cm,s,Q,x,_,h=>by rw [List.forIn_nil]; exact wpAny_pure (h s x)
 | (n,v) :: r,m,cm,s,Q,x,hkind,h=>by
  rw [List.forIn_cons,hf]
  have hr : ∀ y ∈ r,env.kindOf y.1 = some .local ∨ (env.kindOf y.1 = some .cell∧(own.lookup y.1).isSome = true):=fun y hy=>hkind y (List.mem_cons_of_mem _ hy)
  rcases hkind (n,v) List.mem_cons_self with hl | ⟨hl,hc⟩
  ·refine wpAny_bind (wpAny_bind (wpAny_storeName_local hl x.toInCall.ns (fun h' hn' hs'=>?_) (by rw [hk]; rfl)))
   refine wpAny_pure (bindParams hcs f hf hk r (fun y=>if y = n then some v else m y) cm _ Q ⟨⟨?_,hn',fun b o e=>?_,x.toInCall.fresh⟩,fun k c hc=>?_,x.apart,x.above⟩ hr fun s'' x''=>h s'' ?_)
   ·(refine ex2_1 x.toInCall.same fun h₁ tk z1q=>?_; subst z1q)
    exact in2_1 h' _ rfl
   ·exact hs'.extBut b o (Nat.ne_of_lt (Nat.lt_of_lt_of_le (Heap.lt_size e) x.toInCall.fresh)) (x.toInCall.keep b o e)
   ·exact (x.cell k c hc).sameBut hs' (Nat.ne_of_gt (x.above k c (mem_of_lookup hc)))
   ·unfold bindL bindC; rw [if_pos hl,if_pos hl]; exact x''
  ·obtain ⟨c,hc⟩:=Option.isSome_iff_exists.mp hc
   have hnl : ¬ env.kindOf n = some .local:=by rw [hl]; decide
   have hLc:=x.above n c (mem_of_lookup hc)
   refine wpAny_bind (wpAny_bind (wpAny_storeName_cell hk hl (by rw [hcs]; exact lookup_app hc) (x.cell n c hc) fun h' hc' hs'=>?_))
   refine wpAny_pure (bindParams hcs f hf hk r m (fun y=>if y = n then some v else cm y) _ Q ⟨⟨?_,x.toInCall.ns.sameBut hs' (Nat.ne_of_lt hLc),fun b o e=>?_,x.toInCall.fresh⟩,fun k c' hk'=>?_,x.apart,x.above⟩ hr fun s'' x''=>h s'' ?_)
   ·(refine ex2_1 x.toInCall.same fun h₁ tk z2q=>?_; subst z2q)
    exact in2_1 h' _ rfl
   ·exact hs'.extBut b o (Nat.ne_of_lt (Nat.lt_trans (Nat.lt_of_lt_of_le (Heap.lt_size e) x.toInCall.fresh) hLc)) (x.toInCall.keep b o e)
   ·by_cases hkn : k = n
    ·subst hkn
     rw [hc] at hk'; cases hk'
     simpa using hc'
    ·rw [if_neg hkn]
     exact (x.cell k c' hk').sameBut hs' fun e=>hkn (name_of_addr x.apart (mem_of_lookup hk') (e ▸ mem_of_lookup hc))
   ·unfold bindL bindC; rw [if_neg hnl,if_neg hnl]; exact x''
theorem newEnv_closure {M : Model} {E : Value→Shared→Prop} {scope : Scope} {globals : Addr} {closure : List (Str × Addr)} {binds : List (Str × Value)} {qual : Str} {func : Option Addr} {code : Value} {builtins : Addr} {Q : Env→Shared→Prop}
  (hk : scope.kind = .function)
  (hkind : ∀ x ∈ binds,scope.names.lookup x.1 = some .local ∨ scope.names.lookup x.1 = some .cell)
  (hQ : ∀ env own,own = cellsFrom (s.heap.objs.size + 1) scope.names []→env = newEnv scope s.heap.objs.size globals (own ++ closure) qual func code none builtins →
   ∀ s',InCallC s env.locals (bindL env.kindOf binds fun _=>none) own (bindC env.kindOf binds fun _=>none) s'→Q env s') :
  wpAny M A (newFunctionEnv scope globals closure binds qual func code none builtins) Q E s:=by
 simp only [newFunctionEnv,Option.isSome_none,Bool.false_eq_true,if_false]
 refine wpAny_bind (wpAny_alloc ?_)
 refine wpAny_bind (wpAny_layCells _ (fun name kind cells=>by cases hkc : kind == PySem.NameKind.cell <;> simp [hkc]) _ _ _ _ ?_)
 have ok:=cellsFrom_ok scope.names (s.heap.push { cls:=.type "frame",data:=.dict #[] }) (s.heap.objs.size + 1) [] ⟨fun _ _ hm=>(nomatch hm),List.Pairwise.nil⟩ (by rw [Heap.size_push]; exact Nat.le_refl _)
 rw [Heap.size_push] at ok
 rw [show ({ s with heap:=s.heap.push { cls:=.type "frame",data:=.dict #[] } } : Shared).heap.objs.size = s.heap.objs.size + 1 from Heap.size_push ..,cellsFrom_app]
 refine wpAny_bind (bindParams (s₀:=s) (env:=newEnv scope s.heap.objs.size globals (cellsFrom (s.heap.objs.size + 1) scope.names [] ++ closure) qual func code none builtins) (own:=cellsFrom (s.heap.objs.size + 1) scope.names []) (rest:=closure) rfl
  _ (fun _ _ _=>rfl) hk binds (fun _=>none) (fun _=>none) _ _
  ⟨⟨⟨_,_,rfl⟩,(Heap.Ns.new s.heap (.type "frame")).keeps (pushCells_keeps _ _),fun b o e=>pushCells_keeps _ _ b o (Heap.get?_push_of_some _ e),Nat.le_refl _⟩,
   fun n c hc=>(ok.empty n c (mem_of_lookup hc)).1,ok.apart,fun n c hm=>(ok.empty n c hm).2⟩
  (fun x hx=>?_) fun s' x=>wpAny_pure (hQ _ _ rfl rfl s' x))
 rcases hkind x hx with h1 | h1
 ·exact .inl h1
 ·refine .inr ⟨h1,?_⟩
  obtain ⟨c,hc⟩:=cellsFrom_has scope.names (s.heap.objs.size + 1) (mem_of_lookup h1)
  rw [hc]; rfl
end
section
variable {C : Cx} {A : Around} {fl : Option Addr} {φ : Nat→Addr} {H : List O} {s : Shared} {l : List Env} {d : Nat}
theorem lookup_zip : ∀ (ps : List Str) (vals : List Value),ps.Nodup→vals.length = ps.length→∀ (all : List (Str × Value)),(∀ x v,(x,v) ∈ ps.zip vals→all.lookup x = some v)→ps.filterMap (fun n=>(all.lookup n).map (n,·)) = ps.zip vals
 | [],vals,_,h,_,_=>by induction vals using List.casesOn <;> simp_all
 | p :: ps,[],_,h,_,_=>by simp at h
 | p :: ps,v :: vals,nd,h,all,ha=>by
  obtain ⟨n1,n2⟩:=List.nodup_cons.mp nd
  rw [List.filterMap_cons,ha p v (by simp)]
  simp only [Option.map_some,List.zip_cons_cons]
  rw [lookup_zip ps vals n2 (by simpa using h) all fun x v hx=>ha x v (by simp [hx])]
theorem zip_lookup : ∀ (ps : List Str) (vals : List Value),ps.Nodup→∀ x v,(x,v) ∈ ps.zip vals→(ps.zip vals).lookup x = some v
 | [],vals,_,x,v,h=>by simp at h
 | p :: ps,[],_,x,v,h=>by simp at h
 | p :: ps,w :: vals,nd,x,v,h=>by
  obtain ⟨n1,n2⟩:=List.nodup_cons.mp nd
  rw [List.zip_cons_cons,List.lookup_cons]
  rw [List.zip_cons_cons] at h
  rcases List.mem_cons.mp h with e | h
  ·cases e; simp
  ·have : x ∈ ps:=(List.of_mem_zip h).1
   have ne : (x == p) = false:=by
    rw [beq_eq_false_iff_ne]
    rintro rfl
    exact n1 this
   rw [ne]
   exact zip_lookup ps vals n2 x v h
theorem params_eq {p : Arguments} (h1 : p.posonlyargs = []) (h2 : p.kwonlyargs = []) (h3 : p.vararg = none) (h4 : p.kwarg = none) : p = ⟨[],p.args,none,[],p.kw_defaults,none,p.defaults⟩:=by
 obtain ⟨a,b,c,d,e,f,g⟩:=p
 have h1 : a = []:=h1
 have h2 : d = []:=h2
 have h3 : c = none:=h3
 have h4 : f = none:=h4
 rw [h1,h2,h3,h4]
noncomputable def fillS (ps : List Str) (vals : List Value) (ds : List Value) : Sem (List (Str × Value)):=
 forIn ((ps.drop (ps.length - (ds.drop (ds.length - ps.length)).length)).zip (ds.drop (ds.length - ps.length))) (ps.zip vals) fun x r=>if (r.lookup x.1).isNone = true then (pure (ForInStep.yield (r ++ [(x.1,x.2)])) : Sem (ForInStep (List (Str × Value)))) else pure (ForInStep.yield r)
noncomputable def missS (ps : List Str) (vals : List Value) (ds : List Value) : Bool:=!((ps.take (ps.length - (ds.drop (ds.length - ps.length)).length)).filter fun n=>((ps.zip vals).lookup n).isNone).isEmpty
theorem bind_plain {fd : FuncData} {ar : List PySem.Arg} {kd : List (Option Expr)} {df : List Expr} (vals : List Value) (hp : fd.params = ⟨[],ar,none,[],kd,none,df⟩) :
  ∃ X1 X2 : Option (Array Value)→Sem (List (Str × Value)),bindArgs fd ⟨vals,[]⟩ = seqItems? fd.defaults >>= fun dv=>
   if (decide (vals.length > (ar.map (·.arg)).length) && (none : Option PySem.Arg).isNone) = true then X1 dv else
   if missS (ar.map (·.arg)) vals (dv.getD #[]).toList = true then X2 dv else
   fillS (ar.map (·.arg)) vals (dv.getD #[]).toList >>= fun sl=>pure ((((ar.map (fun a : PySem.Arg=>a.arg)) ++ ([] : List Str)).filterMap fun n=>(sl.lookup n).map (n,·))):=by
 unfold bindArgs
 rw [hp]
 exact in2_1 _ _ rfl
theorem bind_run {M : PySem.Model} {A : Around} {Q : List (Str × Value)→Shared→Prop} {E : Value→Shared→Prop} {s : Shared} {fd : FuncData} {vals : List Value} {dv : Option (Array Value)} {sl : List (Str × Value)} (h1 : fd.params.posonlyargs = []) (h2 : fd.params.kwonlyargs = []) (h3 : fd.params.vararg = none) (h4 : fd.params.kwarg = none)
  (hd : ∀ Q' : Option (Array Value)→Shared→Prop,Q' dv s→wpAny M A (seqItems? fd.defaults) Q' E s) (hl : vals.length ≤ (fd.params.args.map (·.arg)).length) (hm : missS (fd.params.args.map (·.arg)) vals (dv.getD #[]).toList = false)
  (hf : fillS (fd.params.args.map (·.arg)) vals (dv.getD #[]).toList = pure sl) (hq : Q ((fd.params.args.map (·.arg)).filterMap fun n=>(sl.lookup n).map (n,·)) s) : wpAny M A (bindArgs fd ⟨vals,[]⟩) Q E s:=by
 refine ex2_1 (bind_plain vals (params_eq h1 h2 h3 h4)) fun X1 X2 e=>?_
 rw [e]
 refine wpAny_bind (hd _ ?_)
 rw [if_neg (by rw [Bool.and_eq_true,decide_eq_true_eq]; exact fun h=>absurd h.1 (Nat.not_lt.mpr hl)),if_neg (by rw [hm]; exact Bool.false_ne_true),hf,pure_bind,List.append_nil]
 exact wpAny_pure hq
theorem binds_exact {fd : FuncData} {vals : List Value} (h1 : fd.params.posonlyargs = []) (h2 : fd.params.kwonlyargs = []) (h3 : fd.params.vararg = none) (h4 : fd.params.kwarg = none) (hd : fd.defaults = .none)
  (nd : (fd.params.args.map (·.arg)).Nodup) (hl : vals.length = (fd.params.args.map (·.arg)).length) : BindsTo s fd ⟨vals,[]⟩ ((fd.params.args.map (·.arg)).zip vals):=by
 intro M A E Q hq
 have key:=zip_lookup _ vals nd
 have e2:=lookup_zip _ vals nd hl _ key
 refine bind_run (dv:=none) h1 h2 h3 h4 (fun Q' q=>by rw [hd]; exact wpAny_pure q) (Nat.le_of_eq hl) ?_ ?_ (by rw [e2]; exact hq)
 ·generalize fd.params.args.map (·.arg) = ps at *
  unfold missS
  rw [Bool.not_eq_false',List.isEmpty_iff,List.filter_eq_nil_iff]
  intro x hx
  obtain ⟨i,hi,e⟩:=List.getElem_of_mem (List.mem_of_mem_take hx)
  have : (x,vals[i]'(by lia)) ∈ ps.zip vals:=by
   rw [← e,← List.getElem_zip (i:=i) (h:=by rw [List.length_zip]; lia)]
   exact List.getElem_mem _
  rw [key _ _ this]
  exact Bool.false_ne_true
 ·unfold fillS
  rw [Option.getD_none,List.drop_nil,List.zip_nil_right]
  rfl
structure FnS (C : Cx) (k : Nat) (F : Fn) : Prop where
 pos : (C.par k).posonlyargs = []
 kwo : (C.par k).kwonlyargs = []
 va : (C.par k).vararg = none
 kwa : (C.par k).kwarg = none
 nod : ((C.par k).args.map (·.arg)).Nodup
 slot : All2 (fun (p : Bool × Nat) nm=>if p.1 = true then (cellNames (C.sco k))[p.2]? = some nm∧(C.sco k).names.lookup nm = some .cell else (localNames (C.sco k))[p.2]? = some nm∧(C.sco k).names.lookup nm = some .local) F.pars ((C.par k).args.map (·.arg))
 nl : (localNames (C.sco k)).length = F.nloc
 nc : (cellNames (C.sco k)).length = F.ncell
 kind : (C.sco k).kind = .function
 co : (C.sco k).isCoroutine = false
 gen : (C.sco k).isGenerator = false
 nam : ((C.sco k).names.map (·.1)).Nodup
theorem lookup_mem {α : Type} {x : Str} {k : α} : ∀ {names : List (Str × α)},(names.map (·.1)).Nodup→(x,k) ∈ names→names.lookup x = some k
 | (y,j) :: r,nd,h=>by
  rw [List.map_cons] at nd
  obtain ⟨n1,n2⟩:=List.nodup_cons.mp nd
  rw [List.lookup_cons]
  rcases List.mem_cons.mp h with e | hh
  ·cases e; simp
  ·have : (x == y) = false:=by
    rw [beq_eq_false_iff_ne]
    rintro rfl
    exact n1 (List.mem_map.mpr ⟨_,hh,rfl⟩)
   rw [this]
   exact lookup_mem n2 hh
theorem of_kind {q : PySem.NameKind} {names : List (Str × PySem.NameKind)} {i : Nat} {x : Str} (h : (names.filterMap fun p=>if p.2 == q then some p.1 else none)[i]? = some x) : (x,q) ∈ names:=by
 obtain ⟨hi,e⟩:=List.getElem?_eq_some_iff.mp h
 have hm : x ∈ names.filterMap fun p=>if p.2 == q then some p.1 else none:=e ▸ List.getElem_mem _
 (refine ex1_2 (List.mem_filterMap.mp hm) fun z1q h1 h2=>?_; obtain ⟨y,j⟩:=z1q)
 split at h2
 ·rename_i hq
  cases h2
  rw [beq_iff_eq] at hq
  subst hq
  exact h1
 ·injection h2
theorem nodup_kind {q : PySem.NameKind} : ∀ {names : List (Str × PySem.NameKind)},(names.map (·.1)).Nodup→(names.filterMap fun p=>if p.2 == q then some p.1 else none).Nodup
 | [],_=>List.nodup_nil
 | (y,j) :: r,nd=>by
  rw [List.map_cons] at nd
  obtain ⟨n1,n2⟩:=List.nodup_cons.mp nd
  rw [List.filterMap_cons]
  split
  ·exact nodup_kind n2
  ·rename_i z e
   split at e
   ·cases e
    refine List.nodup_cons.mpr ⟨fun hm=>?_,nodup_kind n2⟩
    obtain ⟨i,hi,e⟩:=List.getElem_of_mem hm
    have:=of_kind (List.getElem?_eq_some_iff.mpr ⟨hi,e⟩)
    exact n1 (List.mem_map.mpr ⟨_,this,rfl⟩)
   ·injection e
noncomputable def CelR (C : Cx) (φ : Nat→Addr) (N : Nat) (cn : List Str) (cl : List (Option V)) (cm : Str→Option Value) : Prop:=
 cl.length = cn.length∧∀ (i : Nat) x v,cn[i]? = some x→cl[i]? = some v→OptR (VR C φ N) v (cm x)
theorem get_inj {l : List Str} (nd : l.Nodup) {i j : Nat} {x : Str} (h : l[i]? = some x) (h' : l[j]? = some x) : i = j:=by
 obtain ⟨a,b⟩:=List.getElem?_eq_some_iff.mp h
 obtain ⟨c,e⟩:=List.getElem?_eq_some_iff.mp h'
 exact (List.getElem_inj nd).mp (b.trans e.symm)
theorem LocR.put {N : Nat} {ln : List Str} {ρ : Lo} {m : Str→Option Value} {i : Nat} {x : Str} {v : V} {cv : Value} (h : LocR C φ N ln ρ m) (nd : ln.Nodup) (e : ln[i]? = some x) (hv : VR C φ N v cv) : LocR C φ N ln (ρ.set i (some v)) (fun y=>if y = x then some cv else m y):=by
 refine ⟨by rw [List.length_set]; exact h.1,fun j y u e1 e2=>?_⟩
 by_cases q : i = j
 ·subst q
  rw [e] at e1; cases e1
  have hi : i < ρ.length:=by
   have:=(List.getElem?_eq_some_iff.mp e2).1
   rwa [List.length_set] at this
  rw [List.getElem?_set_self hi] at e2
  cases e2
  exact in1_2 cv (if_pos rfl) hv
 ·rw [List.getElem?_set_ne q] at e2
  refine ex1_2 (h.2 j y u e1 e2) fun cu h1 h2=>?_
  refine in1_2 cu ?_ h2
  refine (?_ : (if y = x then some cv else m y) = some cu)
  rw [if_neg]
  ·exact h1
  ·rintro rfl
   exact q (get_inj nd e e1)
theorem CelR.put {N : Nat} {cn : List Str} {cl : List (Option V)} {cm : Str→Option Value} {i : Nat} {x : Str} {v : V} {cv : Value} (h : CelR C φ N cn cl cm) (nd : cn.Nodup) (e : cn[i]? = some x) (hv : VR C φ N v cv) : CelR C φ N cn (cl.set i (some v)) (fun y=>if y = x then some cv else cm y):=by
 refine ⟨by rw [List.length_set]; exact h.1,fun j y u e1 e2=>?_⟩
 by_cases q : i = j
 ·subst q
  rw [e] at e1; cases e1
  have hi : i < cl.length:=by
   have:=(List.getElem?_eq_some_iff.mp e2).1
   rwa [List.length_set] at this
  rw [List.getElem?_set_self hi] at e2
  cases e2
  refine (?_ : OptR _ _ (if x = x then some cv else cm x))
  rw [if_pos rfl]
  exact hv
 ·rw [List.getElem?_set_ne q] at e2
  have:=h.2 j y u e1 e2
  refine (?_ : OptR _ _ (if y = x then some cv else cm y))
  rw [if_neg]
  ·exact this
  ·rintro rfl
   exact q (get_inj nd e e1)
theorem bindP_ok {N : Nat} {kindOf : Str→Option PySem.NameKind} {ln cn : List Str} (nd : ln.Nodup) (nd2 : cn.Nodup) : ∀ (pars : List (Bool × Nat)) (nms : List Str) (vals : List Value) (as : List V) (ρ : Lo) (cl : List (Option V)) (ρ' : Lo) (cl' : List (Option V)) (m cm : Str→Option Value),
  All2 (fun (p : Bool × Nat) nm=>if p.1 = true then cn[p.2]? = some nm∧kindOf nm = some .cell else ln[p.2]? = some nm∧kindOf nm = some .local) pars nms→All2 (VR C φ N) as vals→bindP pars as ρ cl = some (ρ',cl') →
  LocR C φ N ln ρ m→CelR C φ N cn cl cm→LocR C φ N ln ρ' (bindL kindOf (nms.zip vals) m)∧CelR C φ N cn cl' (bindC kindOf (nms.zip vals) cm)∧vals.length = nms.length
 | [],nms,vals,as,ρ,cl,ρ',cl',m,cm,h1,h2,h3,h4,h5=>by
  cases h1
  induction h2 with
  | nil=>cases h3; exact in0_3 h4 h5 rfl
  | cons=>injection h3
 | (false,x) :: pars,nms,vals,as,ρ,cl,ρ',cl',m,cm,h1,h2,h3,h4,h5=>by
  refine ex2_3 h1.inv fun nm nms z a t=>?_
  subst z
  induction as using List.casesOn with
  | nil=>injection h3
  | cons v as=>
  refine ex2_3 h2.inv fun cv vals z b u=>?_
  subst z
  dsimp only at a
  rw [if_neg (by simp)] at a
  have:=bindP_ok nd nd2 pars nms vals as (ρ.set x (some v)) cl ρ' cl' (fun y=>if y = nm then some cv else m y) cm t u h3 (h4.put nd a.1 b) h5
  rw [List.zip_cons_cons]
  unfold bindL bindC
  rw [if_pos a.2,if_pos a.2]
  exact in0_3 this.1 this.2.1 (by simp [this.2.2])
 | (true,x) :: pars,nms,vals,as,ρ,cl,ρ',cl',m,cm,h1,h2,h3,h4,h5=>by
  refine ex2_3 h1.inv fun nm nms z a t=>?_
  subst z
  induction as using List.casesOn with
  | nil=>injection h3
  | cons v as=>
  refine ex2_3 h2.inv fun cv vals z b u=>?_
  subst z
  dsimp only at a
  rw [if_pos rfl] at a
  have hn : ¬ kindOf nm = some .local:=by rw [a.2]; simp
  have:=bindP_ok nd nd2 pars nms vals as ρ (cl.set x (some v)) ρ' cl' m (fun y=>if y = nm then some cv else cm y) t u h3 h4 (h5.put nd2 a.1 b)
  rw [List.zip_cons_cons]
  unfold bindL bindC
  rw [if_neg hn,if_neg hn]
  exact in0_3 this.1 this.2.1 (by simp [this.2.2])
theorem all2_of {α β : Type} {R : α→β→Prop} {l : List α} {m : List β} (h : l.length = m.length) (f : ∀ (i : Nat) x y,l[i]? = some x→m[i]? = some y→R x y) : All2 R l m:=by
 induction l generalizing m with
 | nil=>induction m using List.casesOn with
  | nil=>exact .nil
  | cons=>injection h
 | cons x l ih=>induction m using List.casesOn with
  | nil=>injection h
  | cons y m=>exact .cons (f 0 x y rfl rfl) (ih (Nat.succ.inj h) fun i x y e1 e2=>f (i + 1) x y e1 e2)
theorem enter_fn {M : Model} {E : Value→Shared→Prop} {k : Nat} {F : Fn} {fd : FuncData} {cl : List Nat} {as : List V} {vals : List Value} {ρ : Lo} {cv : List (Option V)} {qual : Str} {a : Addr} {Q : Env→Shared→Prop}
  (S : FnS C k F) (fk : FdOk C φ H.length k cl fd) (r : Rel C φ H s.heap) (hb : bindP F.pars as (List.replicate F.nloc none) (List.replicate F.ncell none) = some (ρ,cv)) (va : All2 (VR C φ H.length) as vals) (st : StkOk C φ H.length l s.heap)
  (h : ∀ env s₁ φ' H' ns,s.heap.get? env.locals = none→newCells cv H = .ok ns H'→Ext C φ H s φ' H' s₁→Rel C φ' H' s₁.heap→EnvOk C φ' H'.length (C.cod k) (C.sco k) (ns ++ cl) ρ s₁.heap env→env.frame = some env.locals→StkOk C φ' H'.length (env :: l) s₁.heap→Q env s₁) :
  wpAny M A (newFunctionEnv fd.scope fd.globals fd.closure (((C.par k).args.map (·.arg)).zip vals) qual (some a) fd.code none fd.builtins) Q E s:=by
 have hsc:=fk.sco
 refine newEnv_closure (by rw [hsc]; exact S.kind) (fun x hx=>?_) fun env own ho he s' X=>?_
 ·have hm:=(List.of_mem_zip (show (x.1,x.2) ∈ _ from hx)).1
  obtain ⟨i,hi,e⟩:=List.getElem_of_mem hm
  have key : ∀ {pars : List (Bool × Nat)} {nms : List Str},All2 (fun (p : Bool × Nat) nm=>if p.1 = true then (cellNames (C.sco k))[p.2]? = some nm∧(C.sco k).names.lookup nm = some .cell else (localNames (C.sco k))[p.2]? = some nm∧(C.sco k).names.lookup nm = some .local) pars nms →
    ∀ y,y ∈ nms→(C.sco k).names.lookup y = some .local ∨ (C.sco k).names.lookup y = some .cell:=by
   intro pars nms q
   induction q with
   | nil=>intro y hy; cases hy
   | cons a _ ih=>
    intro y hy
    rcases List.mem_cons.mp hy with e | hy
    ·subst e
     split at a
     ·exact .inr a.2
     ·exact .inl a.2
    ·exact ih y hy
  rw [hsc]
  exact key S.slot x.1 hm
 ·have e1 : env.scope = C.sco k:=by rw [he,← hsc]; rfl
  have e2 : env.locals = s.heap.objs.size:=by rw [he]; rfl
  have e3 : env.cells = own ++ fd.closure:=by rw [he]; rfl
  have ek : ∀ x,env.kindOf x = (C.sco k).names.lookup x:=fun x=>by unfold Env.kindOf; rw [e1]
  have ekf : env.kindOf = fun x=>(C.sco k).names.lookup x:=funext ek
  have nl : (localNames (C.sco k)).Nodup:=nodup_kind S.nam
  have nc : (cellNames (C.sco k)).Nodup:=nodup_kind S.nam
  have hN : s.heap.get? s.heap.objs.size = none:=get_size_none _
  have fresh : ∀ b,s.heap.objs.size ≤ b→s.heap.get? b = none:=fun b hb=>Heap.get?_none_of_le hb
  obtain ⟨b1,b2,b3⟩:=bindP_ok (C:=C) (φ:=φ) (N:=H.length) (kindOf:=env.kindOf) nl nc F.pars _ vals as _ _ ρ cv (fun _=>none) (fun _=>none)
   (by rw [ekf]; exact S.slot) va hb ⟨by simp [S.nl],fun i x v _ e=>by rw [List.getElem?_replicate] at e; split at e <;> cases e⟩
   ⟨by simp [S.nc],fun i x v _ e=>by rw [List.getElem?_replicate] at e; split at e <;> cases e; trivial⟩
  refine ex2_1 X.toInCall.same fun hs' tk' hse=>?_
  have x0 : Ext C φ H s φ H s':=by rw [hse]; exact grow_ext fun b o e=>by have:=X.toInCall.keep b o e; rw [hse] at this; exact this
  have r0 : Rel C φ H s'.heap:=r.grow fun b o e=>X.toInCall.keep b o e
  have hown : ∀ (i : Nat) x,(cellNames (C.sco k))[i]? = some x→∃ c,own.lookup x = some c:=fun i x e=>by
   rw [ho,hsc]; exact cellsFrom_has _ _ (of_kind e)
  let adr : Str→Addr:=fun x=>(own.lookup x).getD 0
  have hadr : ∀ (i : Nat) x,(cellNames (C.sco k))[i]? = some x→own.lookup x = some (adr x):=fun i x e=>by
   obtain ⟨c,hc⟩:=hown i x e
   refine (?_ : _ = some ((own.lookup x).getD 0))
   rw [hc]; rfl
  have nda : ((cellNames (C.sco k)).map adr).Nodup:=by
   refine List.pairwise_map.mpr (List.pairwise_iff_getElem.mpr fun i j hi hj hij q=>?_)
   have h1:=hadr i _ (List.getElem?_eq_getElem hi)
   have h2:=hadr j _ (List.getElem?_eq_getElem hj)
   rw [q] at h1
   have:=name_of_addr X.apart (mem_of_lookup h1) (mem_of_lookup h2)
   have:=(List.getElem_inj nc).mp this
   lia
  have a2 : All2 (fun v a=>s.heap.get? a = none∧(∀ n,n < H.length→φ n ≠ a)∧∃ ob cvv,s'.heap.get? a = some ob∧ob.data = .cell cvv∧OptR (VR C φ H.length) v cvv) cv ((cellNames (C.sco k)).map adr):=by
   refine all2_of (by rw [List.length_map]; exact b2.1) fun i v a e1' e2'=>?_
   rw [List.getElem?_map] at e2'
   induction q : (cellNames (C.sco k))[i]? using Option.casesOn with
   | none=>rw [q] at e2'; injection e2'
   | some x=>
    rw [q] at e2'
    cases e2'
    have h1:=hadr i x q
    have hlt:=X.above x _ (mem_of_lookup h1)
    rw [e2] at hlt
    have hn:=fresh _ (Nat.le_of_lt hlt)
    refine in0_3 hn (fun n hn' z=>?_) ?_
    ·obtain ⟨ob,w⟩:=r.at hn'
     rw [z,hn] at w; injection w
    ·refine ex1_2 (X.cell x _ h1) fun ob w1 w2=>?_
     exact in2_3 ob _ w1 w2 (b2.2 i x v q e1')
  refine ex2_6 (cells_many cv ((cellNames (C.sco k)).map adr) x0 (fun a ha=>r.free ha) r0 a2 nda) fun φ' ns k1 k2 k3 k4 k5 k6=>?_
  have hlen : H.length + cv.length = (H ++ cv.map O.cell).length:=by simp
  have hL : ∀ n,n < (H ++ cv.map O.cell).length→φ' n ≠ env.locals:=by
   intro n hn
   rw [e2]
   refine k6 _ (fun n hn' z=>?_) (fun hm=>?_) n (by rw [hlen]; exact hn)
   ·obtain ⟨ob,w⟩:=r.at hn'
    rw [z,hN] at w; injection w
   ·refine ex1_2 (List.mem_map.mp hm) fun x hx z=>?_
    obtain ⟨i,hi,e⟩:=List.getElem_of_mem hx
    have h1:=hadr i x (List.getElem?_eq_some_iff.mpr ⟨hi,e⟩)
    have:=X.above x _ (mem_of_lookup h1)
    rw [z,e2] at this
    exact absurd this (Nat.lt_irrefl _)
  have nsl : ns.length = (cellNames (C.sco k)).length:=by rw [k5.length,List.length_map]
  refine h env s' φ' _ ns (by rw [e2]; exact hN) k1 k2 k3 ⟨by rw [e1]; exact S.kind,by rw [he]; exact fk.glo,by rw [he]; exact fk.bui,?_,fun i x e=>?_,fun i x e=>?_,fun x hx=>by rw [ek]; exact lookup_mem S.nam hx,fun x hx=>?_,⟨s.heap.objs.size,by rw [he]; rfl⟩,⟨_,X.toInCall.ns,b1.1,fun i x v e1 e2=>?_⟩,by rw [e2]; exact r.free hN,hL⟩ (by rw [he]; rfl) ?_
  ·rcases fk.cod with q | q
   ·exact .inl q
   ·exact .inr (by rw [he]; exact q)
  ·rw [ek]; exact lookup_mem S.nam (of_kind e)
  ·by_cases q : i < (cellNames (C.sco k)).length
   ·unfold celNames at e
    rw [List.getElem?_append_left q] at e
    refine ⟨.inl (by rw [ek]; exact lookup_mem S.nam (of_kind e)),?_⟩
    have hi : i < ns.length:=by rw [nsl]; exact q
    refine ex1_3 (k5.get (List.getElem?_eq_getElem hi)) fun y hy z1 z2=>?_
    rw [List.getElem?_map,e] at hy
    cases hy
    exact in1_3 (ns[i]) (by rw [List.getElem?_append_left hi]; exact List.getElem?_eq_getElem hi) (by rw [← hlen]; exact z1) (by rw [e3,z2]; exact lookup_app (hadr i x e))
   ·unfold celNames at e
    rw [List.getElem?_append_right (Nat.not_lt.mp q)] at e
    have hm:=of_kind e
    refine ⟨.inr (by rw [ek]; exact lookup_mem S.nam hm),?_⟩
    refine ex1_3 (fk.clo _ x e) fun n z1 z2 z3=>?_
    refine in1_3 n (by rw [List.getElem?_append_right (by lia),nsl]; exact z1) (by simp; lia) ?_
    have hno : own.lookup x = none:=by
     induction w : own.lookup x with
     | none=>rfl
     | some c=>
      rw [ho,hsc] at w
      have:=lookup_mem S.nam (cellsFrom_only _ _ w)
      rw [lookup_mem S.nam hm] at this
      cases this
    rw [e3,lookup_app_none hno,k4 n z2]; exact z3
  ·rw [ek]; exact lookup_mem S.nam hx
  ·refine ex1_2 (b1.2 i x v e1 e2) fun cu w1 w2=>?_
   exact in1_2 cu w1 (w2.mono k4 (by simp))
  ·intro e' he'
   rcases List.mem_cons.mp he' with q | q
   ·rw [q]
    have hns:=X.toInCall.ns
    (refine ex3_3 hns fun o es ep w1 w2 _=>?_; clear hns)
    exact ⟨by rw [e1,S.kind]; simp,env.locals,o,by rw [he]; rfl,by rw [e2]; exact r.free hN,hL,w1,fun vs z=>by rw [w2] at z; injection z⟩
   ·exact (st.ext k2) e' q
end
section
variable {C : Cx} {A : Around} {fl : Option Addr} {φ : Nat→Addr} {H : List O} {s : Shared} {l : List Env} {d : Nat}
structure Nr (e T : Addr) (fr : List Addr) (h h' : Heap) : Prop where
 same : ∀ b o,h.get? b = some o→b ≠ e→b ≠ T→b ∉ fr→h'.get? b = some o
 slot : ∀ b o,h.get? b = some o→b ≠ e→b ≠ T→∃ sl,h'.get? b = some { o with slots:=sl }∧((∃ vs,o.data = .fields vs)→sl = o.slots)
 flds : ∀ b o vs,h.get? b = some o→o.data = .fields vs→∃ vs' sl,h'.get? b = some { o with data:=.fields vs',slots:=sl }∧vs'.size = vs.size
theorem Nr.trans {e T : Addr} {fr : List Addr} {h h₁ h₂ : Heap} (x : Nr e T fr h h₁) (y : Nr e T fr h₁ h₂) : Nr e T fr h h₂:=by
 refine ⟨fun b o q a b' c=>y.same b o (x.same b o q a b' c) a b' c,fun b o q a b'=>?_,fun b o vs q a=>?_⟩
 ·refine ex1_2 (x.slot b o q a b') fun sl q1 f1=>?_
  refine ex1_2 (y.slot b _ q1 a b') fun sl' q2 f2=>?_
  exact in1_2 sl' q2 (fun h=>(f2 h).trans (f1 h))
 ·refine ex2_2 (x.flds b o vs q a) fun vs' sl q1 q2=>?_
  refine ex2_2 (y.flds b _ vs' q1 rfl) fun vs'' sl' q3 q4=>?_
  exact in2_2 vs'' sl' q3 (q4.trans q2)
theorem mapFields_eq {o : Obj} {vs : Array Value} (hd : o.data = .fields vs) (f : Array Value→Array Value) : o.mapFields f = { o with data:=.fields (f vs) }:=by
 obtain ⟨c,dd,dt,sl⟩:=o
 subst hd; rfl
theorem Nr.field {e T a : Addr} {fr : List Addr} {h h₁ : Heap} {o : Obj} {vs : Array Value} {i : Nat} {v : Value} (x : Nr e T fr h h₁) (ha : h₁.get? a = some o) (hd : o.data = .fields vs) (hat : a = e ∨ a = T ∨ h.get? a = none) :
  Nr e T fr h (h₁.update a (Obj.mapFields (·.setIfInBounds i v)))∧(h₁.update a (Obj.mapFields (·.setIfInBounds i v))).get? a = some { o with data:=.fields (vs.setIfInBounds i v) }:=by
 have e0:=mapFields_eq hd (·.setIfInBounds i v)
 have self : (h₁.update a (Obj.mapFields (·.setIfInBounds i v))).get? a = some { o with data:=.fields (vs.setIfInBounds i v) }:=by
  have:=Heap.get?_update_self (Obj.mapFields (·.setIfInBounds i v)) ha (by rw [e0]; rfl)
  rw [e0] at this; exact this
 have other : ∀ b,b ≠ a→(h₁.update a (Obj.mapFields (·.setIfInBounds i v))).get? b = h₁.get? b:=fun b hb=>Heap.get?_update_other _ _ (Ne.symm hb)
 have hne : ∀ b o',h.get? b = some o'→b ≠ e→b ≠ T→b ≠ a:=fun b o' q h1 h2 z=>by
  subst z
  rcases hat with w | w | w
  ·exact h1 w
  ·exact h2 w
  ·rw [w] at q; injection q
 refine ⟨⟨fun b o' q h1 h2 h3=>?_,fun b o' q h1 h2=>?_,fun b o' ws q hw=>?_⟩,self⟩
 ·rw [other b (hne b o' q h1 h2)]; exact x.same b o' q h1 h2 h3
 ·rw [other b (hne b o' q h1 h2)]; exact x.slot b o' q h1 h2
 ·refine ex2_2 (x.flds b o' ws q hw) fun vs' sl q1 q2=>?_
  by_cases z : b = a
  ·subst z
   rw [ha] at q1
   cases q1
   cases hd
   exact in2_2 _ sl self (by rw [Array.size_setIfInBounds]; exact q2)
  ·rw [other b z]; exact in2_2 vs' sl q1 q2
theorem Nr.push {e T : Addr} {fr : List Addr} {h h₁ : Heap} (x : Nr e T fr h h₁) (o : Obj) : Nr e T fr h (h₁.push o):=
 ⟨fun b o' q h1 h2 h3=>Heap.get?_push_of_some _ (x.same b o' q h1 h2 h3),fun b o' q h1 h2=>let ⟨sl,z,f⟩:=x.slot b o' q h1 h2; ⟨sl,Heap.get?_push_of_some _ z,f⟩,
 fun b o' ws q hw=>let ⟨vs',sl,q1,q2⟩:=x.flds b o' ws q hw; ⟨vs',sl,Heap.get?_push_of_some _ q1,q2⟩⟩
theorem Nr.refl (e T : Addr) (fr : List Addr) (h : Heap) : Nr e T fr h h:=⟨fun b o q _ _ _=>q,fun b o q _ _=>⟨o.slots,q,fun _=>rfl⟩,fun b o vs q hd=>⟨vs,o.slots,by induction o; cases hd; exact q,rfl⟩⟩
theorem Nr.slots {e T : Addr} {fr : List Addr} {h h₁ h₂ : Heap} (x : Nr e T fr h h₁) (y : Heap.SlotsOnly fr h₁ h₂) (nf : ∀ b,b ∈ fr→∀ o,h₁.get? b = some o→∀ vs,o.data ≠ .fields vs) : Nr e T fr h h₂:=by
 refine x.trans ⟨fun b o q _ _ h3=>by rw [y.2.1 b h3]; exact q,fun b o q _ _=>?_,fun b o vs q hd=>?_⟩
 ·by_cases hb : b ∈ fr
  ·obtain ⟨sl,z⟩:=y.2.2 b o q
   exact in1_2 sl z (fun ⟨vs,w⟩=>absurd w (nf b hb o q vs))
  ·exact in1_2 o.slots (by rw [y.2.1 b hb]; exact q) (fun _=>rfl)
 obtain ⟨sl,z⟩:=y.2.2 b o q
 exact in2_2 vs sl (by obtain ⟨_,_,_,_⟩:=o; subst hd; exact z) rfl
theorem Nr.rel {T : Addr} {fr : List Addr} {h h' : Heap} {n c : Nat} {dd : Option Nat} (x : Nr (φ n) T fr h h') (r : Rel C φ H h) (hn : H[n]? = some (.exc c dd true)) (hT : Free C T) (hu : ∀ m,m < H.length→φ m ≠ T)
  (hf : ∀ b,b ∈ fr→Free C b∧∀ m,m < H.length→φ m ≠ b) : Rel C φ H h':=by
 have hlt : n < H.length:=(List.getElem?_eq_some_iff.mp hn).1
 have hc : ∀ cd,CodeAt h cd→CodeAt h' cd:=fun cd z=>ex3_3 z fun o vs y q1 q2 q3=>by
  refine ex2_2 (x.flds cd o vs q1 q2) fun vs' sl q4 q5=>?_
  have : 1 < vs'.size:=by rw [q5]; exact (Array.getElem?_eq_some_iff.mp q3).1
  exact in3_3 _ vs' (vs'[1]) q4 rfl (Array.getElem?_eq_getElem this)
 have hfree:=r.new n hlt
 refine ⟨fun m o e=>?_,r.inj,r.new,fun b o q=>?_,fun P hP=>?_⟩
 ·refine ex1_2 (r.obj m o e) fun ob q1 q2=>?_
  have hm : m < H.length:=(List.getElem?_eq_some_iff.mp e).1
  by_cases z : m = n
  ·subst z
   rw [hn] at e
   cases e
   refine ex2_4 q2.inv fun vs sl z a b b'=>?_
   subst z
   refine ex2_2 (x.flds _ _ _ q1 rfl) fun vs' sl q4 q5=>?_
   exact in1_2 _ q4 (.exc a (by rw [q5]; exact b) (by intro w; injection w))
  ·refine in1_2 ob (x.same _ ob q1 (fun w=>z (r.inj m n hm hlt w)) (hu m hm) (fun w=>(hf _ w).2 m hm rfl)) (q2.mono (fun _ _=>rfl) (Nat.le_refl _) fun cd a b=>⟨hc cd a,b⟩)
 ·have hb:=r.base b o q
  refine x.same b o hb (fun w=>?_) (fun w=>?_) (fun w=>?_)
  ·rw [w,hfree.1] at q; cases q
  ·rw [w,hT.1] at q; injection q
  ·rw [(hf _ w).1.1] at q; injection q
 ·refine ex1_3 (r.tabs P hP) fun ps h1 h2 h3=>?_
  refine in1_3 ps (x.same P _ h1 (fun w=>hfree.2 (w ▸ hP)) (fun w=>hT.2 (w ▸ hP)) (fun w=>(hf _ w).1.2 hP)) h2 (fun pos c e=>?_)
  refine ex1_3 (h3 pos c e) fun cd a1 a3 a4=>?_
  exact in1_3 cd a1 a3 (hc cd a4)
theorem Nr.ext {T : Addr} {fr : List Addr} {h' : Heap} {n : Nat} {φ₀ : Nat→Addr} {H₀ : List O} {s₀ : Shared} (x : Nr (φ n) T fr s.heap h') (y : Ext C φ₀ H₀ s₀ φ H s) (hn : n < H.length) (hT : s₀.heap.get? T = none)
  (he : ∃ o vs,s.heap.get? (φ n) = some o∧o.data = .fields vs) (hTf : ∀ o,s.heap.get? T = some o→∃ vs,o.data = .fields vs) : Ext C φ₀ H₀ s₀ φ H { s with heap:=h' }:=by
 refine ⟨y.len,y.phi,y.fresh,fun b o q h1 h2=>?_,fun b o q=>?_,y.gens,y.os⟩
 ·refine ex1_2 (y.keep b o q h1 h2) fun sl z f1=>?_
  have hb : b ≠ T:=fun w=>by rw [w,hT] at q; injection q
  refine ex1_2 (x.slot b _ z (fun w=>y.off h1 q n hn w.symm) hb) fun sl' w f2=>?_
  exact in1_2 sl' w (fun h=>(f2 h).trans (f1 h))
 ·obtain ⟨o',z⟩:=y.live b o q
  by_cases w : b = φ n
  ·subst w
   (refine ex2_2 he fun o vs k1 k2=>?_; clear he)
   refine ex2_2 (x.flds _ o vs k1 k2) fun _ _ k3 _=>?_
   exact ⟨_,k3⟩
  ·by_cases w' : b = T
   ·subst w'
    obtain ⟨vs,k2⟩:=hTf _ z
    refine ex2_2 (x.flds _ o' vs z k2) fun _ _ k3 _=>?_
    exact ⟨_,k3⟩
   ·refine ex1_2 (x.slot b o' z w w') fun sl k _=>?_
    exact ⟨_,k⟩
theorem entry_ok {M : PySem.Model} {E : Value→Shared→Prop} {env : Env} {L e T : Addr} {g1 : Heap} {oe : Obj} {vs : Array Value} {head : Value} {b : Bool} {Q : Unit→Shared→Prop} (hA : A.frames = some (env :: l)) (hf : env.frame = some L)
  (hfr : ∀ b,b ∈ (env :: l).filterMap (·.frame)→∃ o,g1.get? b = some o∧∀ vs,o.data ≠ .fields vs) (kf : g1.FunFrames C.base (env :: l)) (N1 : Nr e T ((env :: l).filterMap (·.frame)) s.heap g1) (oe1 : g1.get? e = some oe) (a2 : oe.data = .fields vs) (h1 : 1 < vs.size)
  (hT : ∀ oT,s.heap.get? T = some oT→∃ ts,oT.data = .fields ts)
  (h : ∀ g3 T2 to ts,Nr e T ((env :: l).filterMap (·.frame)) s.heap g3→s.heap.get? T2 = none→T2 ≠ e→g3.get? e = some { oe with data:=.fields (vs.setIfInBounds 1 (.ref T2)) }→g3.get? T2 = some to→to.data = .fields ts→ts[3]? = some (rawInt L)→Q () { s with heap:=g3 }) :
  wpAny M A (do let a ← PySem.frameOf env; let pl ← PySem.entryPlaceOf L b; let x ← EntryCells.newEntry head a .none (rawInt L) .none pl; setField (.ref e) 1 x) Q E { s with heap:=g1 }:=by
 refine wpAny_bind (wpAny_frameOf_fun hA kf hf fun g2 hs=>?_)
 have T2:=N1.slots hs fun b hb o q vs w=>by
  refine ex1_2 (hfr b hb) fun o' z1 z2=>?_
  rw [z1] at q; cases q
  exact z2 _ w
 refine wpAny_bind (wpAny_entryPlaceOf fun pl hpl=>?_)
 unfold EntryCells.newEntry newFields
 refine wpAny_bind (wpAny_newObj_type ?_ (hpl.sizeOk5 _ _ _ _ _))
 have hene : e ∉ (env :: l).filterMap (·.frame):=fun hm=>by
  refine ex1_2 (hfr _ hm) fun o z1 z2=>?_
  rw [oe1] at z1; cases z1; exact z2 _ a2
 have oe2 : g2.get? e = some oe:=(hs.2.1 _ hene).trans oe1
 generalize hto : ({ cls:=.type "traceback",dict:=none,data:=.fields ([head,.ref L,.none,rawInt L,.none] ++ (if pl.isEmpty then List.replicate 6 Value.none else pl)).toArray } : Obj) = to
 have hT2 : s.heap.get? g2.objs.size = none:=by
  induction w : s.heap.get? g2.objs.size using Option.casesOn with
  | none=>rfl
  | some o=>
   have : ∃ o',g2.get? g2.objs.size = some o':=by
    by_cases y1 : g2.objs.size = e
    ·exact ⟨oe,by rw [y1]; exact oe2⟩
    ·by_cases y2 : g2.objs.size = T
     ·rw [y2] at w
      obtain ⟨ts,k2⟩:=hT o w
      refine ex2_2 (T2.flds T o ts w k2) fun _ _ y3 _=>?_
      exact ⟨_,by rw [y2]; exact y3⟩
     ·refine ex1_2 (T2.slot _ o w y1 y2) fun _ y3 _=>?_
      exact ⟨_,y3⟩
   obtain ⟨o',w'⟩:=this
   exact absurd (Heap.lt_size w') (Nat.lt_irrefl _)
 have hd2 : to.data = .fields ([head,.ref L,.none,rawInt L,.none] ++ (if pl.isEmpty then List.replicate 6 Value.none else pl)).toArray:=by rw [← hto]
 have P3:=(T2.push to).field (i:=1) (v:=.ref g2.objs.size) (a:=e) (Heap.get?_push_of_some _ oe2) a2 (.inl rfl)
 refine wpAny_setField (Heap.get?_push_of_some _ oe2) a2 h1 ?_
 have sz : g2.objs.size ≠ e:=Nat.ne_of_gt (Heap.lt_size oe2)
 refine h _ g2.objs.size to _ P3.1 hT2 sz P3.2 ((Heap.get?_update_other _ _ (Ne.symm sz)).trans (Heap.get?_push_size _ (by rw [← hto]; rfl))) hd2 (by simp)
theorem leave_ok2 {M : Model} {E : Value→Shared→Prop} {env : Env} {L : Addr} {ce : Value} {n : Nat} {φ₀ : Nat→Addr} {H₀ : List O} {s₀ : Shared} {Q : Unit→Shared→Prop} (hA : A.frames = some (env :: l)) (hf : env.frame = some L)
  (x : Ext C φ₀ H₀ s₀ φ H s) (r : Rel C φ H s.heap) (k : StkOk C φ H.length (env :: l) s.heap) (e : ErrR C s₀.heap (some L) φ H n ce s.heap)
  (h : ∀ s',Ext C φ₀ H₀ s₀ φ H s'→Rel C φ H s'.heap→ErrR C s₀.heap fl φ H n ce s'.heap→Q () s') : wpAny M A (PySem.noteFrame ce env) (fun _ s'=>wpAny M A (setFlight ce none) Q E s') E s:=by
 obtain ⟨rfl,⟨c,dd,hn⟩,oe,vs,a1,a2,a3⟩:=e
 have hlt : n < H.length:=(List.getElem?_eq_some_iff.mp hn).1
 have hfr : ∀ b,b ∈ (env :: l).filterMap (·.frame)→Free C b∧(∀ m,m < H.length→φ m ≠ b)∧∃ o,s.heap.get? b = some o∧∀ vs,o.data ≠ .fields vs:=fun b hb=>by
  refine ex1_2 (List.mem_filterMap.mp hb) fun e' q1 q2=>?_
  obtain ⟨_,L',o,q3,q4,q5,q6,q7⟩:=k e' q1
  rw [q3] at q2; cases q2
  exact ⟨q4,q5,o,q6,q7⟩
 have old1 : ∀ a,s.heap.get? a = none→s₀.heap.get? a = none:=fun a ha=>by
  induction w : s₀.heap.get? a using Option.casesOn with
  | none=>rfl
  | some o=>obtain ⟨o',w'⟩:=x.live _ o w; rw [ha] at w'; injection w'
 have old2 : ∀ a,s.heap.get? a = none→∀ m,m < H.length→φ m ≠ a:=fun a ha m hm w=>by
  obtain ⟨ob,w'⟩:=r.at hm
  rw [w,ha] at w'; injection w'
 have fin : ∀ T,s₀.heap.get? T = none→Free C T→(∀ m,m < H.length→φ m ≠ T)→(∀ o,s.heap.get? T = some o→∃ vs,o.data = .fields vs)→∀ h',Nr (φ n) T ((env :: l).filterMap (·.frame)) s.heap h'→(∃ oe vs T oT ts,h'.get? (φ n) = some oe∧oe.data = .fields vs∧vs[1]? = some (.ref T)∧s₀.heap.get? T = none∧Free C T∧(∀ n,n < H.length→φ n ≠ T)∧h'.get? T = some oT∧oT.data = .fields ts∧ts[3]? = some .none)→Q () { s with heap:=h' }:=
  fun T t1 t2 t3 t4 h' N z=>ex5_9 z fun oe' vs' T' oT' ts' b1 b2 b3 b4 b5 b6 b7 b8 b9=>
   h _ (N.ext x hlt t1 ⟨oe,vs,a1,a2⟩ t4) (N.rel r hn t2 t3 fun b hb=>⟨(hfr b hb).1,(hfr b hb).2.1⟩) ⟨rfl,⟨c,dd,hn⟩,oe',vs',b1,b2,.inr ⟨T',oT',ts',.none,b3,b4,b5,b6,b7,b8,b9,.inl rfl⟩⟩
 have key : ∀ T g1 head b,s₀.heap.get? T = none→Free C T→(∀ m,m < H.length→φ m ≠ T)→(∀ o,s.heap.get? T = some o→∃ vs,o.data = .fields vs)→Nr (φ n) T ((env :: l).filterMap (·.frame)) s.heap g1→g1.get? (φ n) = some oe→(∀ b o,s.heap.get? b = some o→(∀ vs,o.data ≠ .fields vs)→g1.get? b = some o)→1 < vs.size →
   wpAny M A (do let a ← PySem.frameOf env; let pl ← PySem.entryPlaceOf L b; let x ← EntryCells.newEntry head a .none (rawInt L) .none pl; setField (.ref (φ n)) 1 x) (fun _ s'=>wpAny M A (setFlight (.ref (φ n)) none) Q E s') E { s with heap:=g1 }:=by
  intro T g1 head b t1 t2 t3 t4 N1 oe1 kp h1
  refine entry_ok (s:=s) hA hf (fun b hb=>?_) (k.fun.of_keeps fun b o hb hnf=>⟨o,kp b o hb hnf,rfl⟩) N1 oe1 a2 h1 t4 fun g3 T2 to ts N3 f1 f2 f3 f4 f5 f6=>?_
  ·obtain ⟨_,_,o,z1,z2⟩:=hfr b hb
   exact in1_2 o (kp b o z1 z2) z2
  ·unfold setFlight
   refine wpAny_bind (wpAny_field f3 rfl (x:=.ref T2) (by simp [h1]) ?_)
   rw [if_pos (show (Value.ref T2 != Value.none) = true from by simp)]
   refine wpAny_setField f4 f5 (Array.getElem?_eq_some_iff.mp f6).1 ?_
   have P4:=N3.field (i:=3) (v:=.none) (a:=T2) f4 f5 (.inr (.inr f1))
   exact fin T t1 t2 t3 t4 _ P4.1 ⟨_,_,T2,_,_,(Heap.get?_update_other _ _ f2).trans f3,rfl,by simp [h1],old1 _ f1,r.free f1,old2 _ f1,P4.2,rfl,by simp [(Array.getElem?_eq_some_iff.mp f6).1]⟩
 have h1 : 1 < vs.size:=by
  rcases a3 with a3 | ⟨_,_,_,_,a3,_⟩ <;> exact (Array.getElem?_eq_some_iff.mp a3).1
 unfold PySem.noteFrame
 simp only [hf]
 rcases a3 with a3 | ⟨T,oT,ts,f,a3,a4,a5,a6,a7,a8,a9,a10⟩
 ·refine wpAny_bind (wpAny_field a1 a2 a3 ?_)
  rw [if_neg (by decide)]
  have g0:=get_size_none s.heap
  exact key s.heap.objs.size s.heap _ _ (old1 _ g0) (r.free g0) (old2 _ g0) (fun o q=>by rw [g0] at q; injection q) (Nr.refl ..) a1 (fun b o q _=>q) h1
 ·have h3:=(Array.getElem?_eq_some_iff.mp a9).1
  have hTe : T ≠ φ n:=fun q=>a6 n hlt q.symm
  have t4 : ∀ o,s.heap.get? T = some o→∃ vs,o.data = .fields vs:=fun o q=>by rw [a7] at q; cases q; exact ⟨_,a8⟩
  refine wpAny_bind (wpAny_field a1 a2 a3 ?_)
  rw [if_pos (show (Value.ref T != Value.none) = true from by simp)]
  refine wpAny_bind (wpAny_field a7 a8 a9 ?_)
  rcases a10 with q | ⟨L',q1,q2⟩
  ·subst q
   rw [if_neg (show ¬ ((Value.none == rawInt L) = true) from by simp [rawInt])]
   refine wpAny_bind (wpAny_setField a7 a8 h3 ?_)
   have T1:=(Nr.refl (φ n) T ((env :: l).filterMap (·.frame)) s.heap).field (i:=3) (v:=.none) a7 a8 (.inr (.inl rfl))
   exact key T _ _ _ a4 a5 a6 t4 T1.1 ((Heap.get?_update_other _ _ hTe).trans a1) (fun b o hb hnf=>(Heap.get?_update_other _ _ (fun w=>by subst w; rw [a7] at hb; cases hb; exact hnf _ a8)).trans hb) h1
  ·cases q1
   rw [q2,if_pos (by simp)]
   refine wpAny_pure ?_
   unfold setFlight
   refine wpAny_bind (wpAny_field a1 a2 a3 ?_)
   rw [if_pos (show (Value.ref T != Value.none) = true from by simp)]
   refine wpAny_setField a7 a8 h3 ?_
   have T1:=(Nr.refl (φ n) T ((env :: l).filterMap (·.frame)) s.heap).field (i:=3) (v:=.none) a7 a8 (.inr (.inl rfl))
   exact fin T a4 a5 a6 t4 _ T1.1 ⟨oe,vs,T,_,_,(Heap.get?_update_other _ _ hTe).trans a1,a2,a3,a4,a5,a6,T1.2,rfl,by simp [h3]⟩
theorem leave_ok {M : Model} {E : Value→Shared→Prop} {env : Env} {L : Addr} {ce : Value} {n : Nat} {φ₀ : Nat→Addr} {H₀ : List O} {s₀ : Shared} {Q : Unit→Shared→Prop} (hA : A.frames = some (env :: l)) (hf : env.frame = some L)
  (x : Ext C φ₀ H₀ s₀ φ H s) (r : Rel C φ H s.heap) (k : StkOk C φ H.length (env :: l) s.heap) (e : ErrR C s₀.heap (some L) φ H n ce s.heap)
  (h : ∀ s',Ext C φ₀ H₀ s₀ φ H s'→Rel C φ H s'.heap→ErrR C s₀.heap fl φ H n ce s'.heap→Q () s') : wpAny M A (leaving env ce) Q E s:=wpAny_bind (leave_ok2 (fl:=fl) hA hf x r k e h)
end
section
variable {C : Cx} {A : Around} {fl : Option Addr} {φ : Nat→Addr} {H : List O} {s : Shared} {l : List Env} {d : Nat}
structure ExtL (C : Cx) (L : Addr) (φ : Nat→Addr) (H : List O) (s : Shared) (φ' : Nat→Addr) (H' : List O) (s' : Shared) : Prop where
 len : H.length ≤ H'.length
 phi : ∀ n,n < H.length→φ' n = φ n
 fresh : ∀ n,H.length ≤ n→n < H'.length→s.heap.get? (φ' n) = none
 keep : ∀ b o,s.heap.get? b = some o→(∀ n,n < H.length→φ n ≠ b)→b ∉ C.tabs→b ≠ L→∃ sl,s'.heap.get? b = some { o with slots:=sl }∧((∃ vs,o.data = .fields vs)→sl = o.slots)
 live : ∀ b o,s.heap.get? b = some o→∃ o',s'.heap.get? b = some o'
 gens : s'.gens = s.gens
 os : s'.os = s.os
section
variable {L : Addr} {φ' φ₁ φ₂ : Nat→Addr} {H' H₁ H₂ : List O} {s' s₁ s₂ : Shared}
theorem Ext.loose (x : Ext C φ H s φ' H' s') : ExtL C L φ H s φ' H' s':=⟨x.len,x.phi,x.fresh,fun b o e h1 h2 _=>x.keep b o e h1 h2,x.live,x.gens,x.os⟩
theorem ExtL.refl : ExtL C L φ H s φ H s:=(Ext.refl φ H s).loose
theorem ExtL.off (x : ExtL C L φ H s φ' H' s') {b : Addr} {o : Obj} (hb : ∀ n,n < H.length→φ n ≠ b) (hl : s.heap.get? b = some o) : ∀ n,n < H'.length→φ' n ≠ b:=fun n hn q=>by
 by_cases z : n < H.length
 ·exact hb n z (by rw [← x.phi n z]; exact q)
 ·have h3:=x.fresh n (Nat.not_lt.mp z) hn
  rw [q,hl] at h3
  injection h3
theorem ExtL.trans (x : ExtL C L φ H s φ₁ H₁ s₁) (y : ExtL C L φ₁ H₁ s₁ φ₂ H₂ s₂) : ExtL C L φ H s φ₂ H₂ s₂:=by
 refine ⟨Nat.le_trans x.len y.len,fun n hn=>(y.phi n (Nat.lt_of_lt_of_le hn x.len)).trans (x.phi n hn),fun n h1 h2=>?_,fun b o e h1 h2 h3=>?_,fun b o e=>?_,y.gens.trans x.gens,y.os.trans x.os⟩
 ·by_cases q : n < H₁.length
  ·rw [y.phi n q]; exact x.fresh n h1 q
  ·have z:=y.fresh n (Nat.not_lt.mp q) h2
   induction w : s.heap.get? (φ₂ n) using Option.casesOn with
   | none=>rfl
   | some o=>
    obtain ⟨o',e⟩:=x.live _ _ w
    rw [e] at z; injection z
 ·refine ex1_2 (x.keep b o e h1 h2 h3) fun sl e1 f1=>?_
  refine ex1_2 (y.keep b _ e1 (x.off h1 e) h2 h3) fun sl' e2 f2=>?_
  exact in1_2 sl' e2 (fun h=>(f2 h).trans (f1 h))
 ·obtain ⟨o',e1⟩:=x.live b o e
  exact y.live b o' e1
theorem Ext.transL (x : Ext C φ H s φ₁ H₁ s₁) (y : ExtL C L φ₁ H₁ s₁ φ₂ H₂ s₂) (hL : s.heap.get? L = none) : Ext C φ H s φ₂ H₂ s₂:=by
 have z : ExtL C L φ H s φ₂ H₂ s₂:=(x.loose (L:=L)).trans y
 exact ⟨z.len,z.phi,z.fresh,fun b o e h1 h2=>z.keep b o e h1 h2 (fun q=>by rw [q,hL] at e; injection e),z.live,z.gens,z.os⟩
theorem StkOk.extL {l : List Env} {m : Str→Option Value} (x : ExtL C L φ H s φ' H' s') (hn : s'.heap.Ns L m) (k : StkOk C φ H.length l s.heap) : StkOk C φ' H'.length l s'.heap:=fun e he=>by
 obtain ⟨h1,L',o,h2,h3,h4,h5,h6⟩:=k e he
 by_cases q : L' = L
 ·subst q
  (refine ex3_3 hn fun o' es ep w1 w2 _=>?_; clear hn)
  exact ⟨h1,L',o',h2,h3,x.off h4 h5,w1,fun vs z=>by rw [w2] at z; injection z⟩
 ·refine ex1_2 (x.keep L' o h5 h4 h3.2 q) fun sl h7 _=>?_
  exact ⟨h1,L',_,h2,h3,x.off h4 h5,h7,h6⟩
end
noncomputable def FlR (C : Cx) (φ : Nat→Addr) (N : Nat) : Fl→PySem.Flow→Prop
 | .nxt,.next=>True
 | .brk,.brk=>True
 | .ret v,.ret cv=>VR C φ N v cv
 | _,_=>False
inductive OkB (C : Cx) (L : Addr) (names : List Str) (φ : Nat→Addr) (H : List O) (s : Shared) (res : Res (Fl × Lo)) (f : PySem.Flow) (s' : Shared) : Prop
 | mk (a : Fl) (ρ' : Lo) (H' : List O) (φ' : Nat→Addr) (q : res = .ok (a,ρ') H') (x : ExtL C L φ H s φ' H' s') (r : Rel C φ' H' s'.heap) (z : FlR C φ' H'.length a f) (w : ∃ mm,s'.heap.Ns L mm∧LocR C φ' H'.length names ρ' mm) : OkB C L names φ H s res f s'
inductive ErB (C : Cx) {α : Type} (fl : Option Addr) (L : Addr) (φ : Nat→Addr) (H : List O) (s : Shared) (res : Res α) (ce : Value) (s' : Shared) : Prop
 | mk (n : Nat) (H' : List O) (φ' : Nat→Addr) (q : res = .err n H') (x : ExtL C L φ H s φ' H' s') (r : Rel C φ' H' s'.heap) (z : ErrR C s.heap fl φ' H' n ce s'.heap) (w : ∃ mm,s'.heap.Ns L mm) : ErB C fl L φ H s res ce s'
noncomputable def SimS (C : Cx) (A : Around) (fl : Option Addr) (L : Addr) (names : List Str) (m : M (Fl × Lo)) (t : Sem PySem.Flow) (φ : Nat→Addr) (H : List O) (s : Shared) : Prop:=
 m H ≠ .stuck→wpAny (model C.prog C.w) A t
  (OkB C L names φ H s (m H)) (ErB C fl L φ H s (m H)) s
theorem call_any {prog : Program} {w : World} {R : PySem.Result→Shared→Prop} {a cd : Addr} {args : PySem.Args} {o : Obj} {fd : FuncData} (hroom : A.depth < PySem.recursionLimit)
  (ho : s.heap.get? a = some o) (hd' : o.data = .func fd) (hco : fd.scope.isCoroutine = false) (hgen : fd.scope.isGenerator = false) (hc : fd.code = .ref cd) (hcd : CodeAt s.heap cd)
  (h : ∀ q : Str,wpAny (model prog w) A.in1 (PySem.bindArgs fd args) (fun binds s₁=>
   wpAny (model prog w) A.in1 (newFunctionEnv fd.scope fd.globals fd.closure binds (q ++ ".<locals>.") (some a) fd.code none fd.builtins)
    (fun env s₂=>s₂.heap.NoLimit∧codeAny (model prog w) A (match fd.body with | .stmts b=>.func b env | .expr e=>.expr e env) R s₂) (fun e s'=>R (.error e) s') s₁) (fun e s'=>R (.error e) s') s) :
  codeAny (model prog w) A (.call (.ref a) args) R s:=by
 refine codeAny_of_tree ?_
 refine (?_ : wpAny _ A.in1 (callAny (.ref a) args) _ _ s)
 simp only [callAny]
 refine wpAny_bind (wpAny_load ho ?_)
 (refine ex3_3 hcd fun oc vs x hoc hdc hq=>?_; clear hcd)
 simp only [hd',callFunction,hco,hgen,hc]
 simp only [hc] at h
 refine wpAny_bind (m:=field (.ref cd) 1) (wpAny_field hoc hdc hq ?_)
 have key : ∀ q : Str,wpAny (model prog w) A.in1 (do
   let env ← newFunctionEnv fd.scope fd.globals fd.closure (← PySem.bindArgs fd args) (q ++ ".<locals>.") (some a) (.ref cd) none fd.builtins
   PySem.enterFrame
   let code : PySem.Code:=match fd.body with
    | .stmts b=>.func b env
    | .expr e=>.expr e env
   again code) (fun fin s'=>match fin with | .done f=>R (.ok f) s' | .again c'=>c'.quiet = true∧codeAny (model prog w) A c' R s') (fun e s'=>R (.error e) s') s:=fun q=>by
  refine wpAny_bind (wpAny_mono (h q) (fun binds s₁ h₁=>wpAny_bind (wpAny_mono h₁ (fun env s₂ h₂=>wpAny_bind (wpAny_enterFrame h₂.1 hroom ?_)) fun _ _ h'=>h')) fun _ _ h'=>h')
  refine wpAny_pure (And.intro ?_ h₂.2)
  cases fd.body <;> rfl
 induction x <;> exact wpAny_bind (wpAny_pure (key _))
theorem Good.lim (G : Good C) (hl : C.base.NoLimit) {h : Heap} (r : Rel C φ H h) : h.NoLimit:=hl.keeps fun b o e=>r.base b o e
structure CallOk (C : Cx) (F : Fn) (φ : Nat→Addr) (H : List O) (s : Shared) (k : Nat) (cl : List Nat) (a : Addr) : Prop where
 ob : ∃ o fd cd,s.heap.get? a = some o∧o.cls = .type "function"∧o.data = .func fd∧FdOk C φ H.length k cl fd∧fd.code = .ref cd∧CodeAt s.heap cd ∧
  ∀ as vals,All2 (VR C φ H.length) as vals→(fillD F as).length = ((C.par k).args.map (·.arg)).length →
   ∃ vals',All2 (VR C φ H.length) (fillD F as) vals'∧BindsTo s fd ⟨vals,[]⟩ (((C.par k).args.map (·.arg)).zip vals')
theorem bindP_len : ∀ {pars : List (Bool × Nat)} {as : List V} {ρ : Lo} {cl : List (Option V)} {x : Lo × List (Option V)},bindP pars as ρ cl = some x→as.length = pars.length
 | [],[],_,_,_,_=>rfl
 | [],_ :: _,_,_,_,h=>by injection h
 | (false,_) :: ps,[],_,_,_,h=>by injection h
 | (true,_) :: ps,[],_,_,_,h=>by injection h
 | (false,_) :: ps,_ :: _,_,_,_,h=>congrArg (· + 1) (bindP_len (pars:=ps) h)
 | (true,_) :: ps,_ :: _,_,_,_,h=>congrArg (· + 1) (bindP_len (pars:=ps) h)
noncomputable def BodyS (C : Cx) (ih : Ev) (l : List Env) (d : Nat) (k : Nat) (F : Fn) : Prop:=
 ∀ A' env φ' H' s' ρ cs',Rdy A' (env :: l) d→Rel C φ' H' s'.heap→StkOk C φ' H'.length (env :: l) s'.heap→EnvOk C φ' H'.length (C.cod k) (C.sco k) cs' ρ s'.heap env→env.frame = some env.locals →
  match F.body,C.bod k with
  | .inl b,.stmts pb=>SimS C A' env.frame env.locals (localNames (C.sco k)) (ih.ss cs' ρ b) (execs pb env) φ' H' s'
  | .inr e,.expr pe=>Sim C A' env.frame (VH C) (ih.e cs' ρ e) (eval pe env) φ' H' s'
  | _,_=>False
noncomputable def SimCall (C : Cx) (A : Around) (fl : Option Addr) (m : M V) (f : Value) (vals : List Value) (φ : Nat→Addr) (H : List O) (s : Shared) : Prop:=
 m H ≠ .stuck→codeAny (model C.prog C.w) A (.call f ⟨vals,[]⟩) (fun r s'=>match r with
  | .ok (.ret v)=>OkP C (VH C) φ H s (m H) v s'
  | .ok _=>False
  | .error ce=>ErP C fl φ H s (m H) ce s') s
theorem SimCall.sim {m : M V} {f : Value} {vals : List Value} (h : SimCall C A fl m f vals φ H s) : Sim C A fl (VH C) m (call f vals) φ H s:=fun hne=>wpAny_call (h hne)
theorem call_fn {ih : Ev} {fns : Nat→Fn} {k : Nat} {cl : List Nat} {a : Addr} {as : List V} {vals : List Value} (hlim : C.base.NoLimit) (S : FnS C k (fns k)) (c : CallOk C (fns k) φ H s k cl a) (r : Rel C φ H s.heap) (st : StkOk C φ H.length l s.heap)
  (rd : Rdy A l (d + 1)) (va : All2 (VR C φ H.length) as vals) (B : BodyS C ih l d k (fns k)) : SimCall C A fl (fnStep fns ih k cl as) (.ref a) vals φ H s:=by
 intro hne
 unfold fnStep at hne ⊢
 dsimp only at hne ⊢
 induction hb : bindP (fns k).pars (fillD (fns k) as) (List.replicate (fns k).nloc none) (List.replicate (fns k).ncell none) using Option.casesOn with
 | none=>rw [hb] at hne; exact absurd rfl hne
 | some p=>
 obtain ⟨ρ,cv⟩:=p
 rw [hb] at hne
 dsimp only at hne ⊢
 refine ex3_7 c.ob fun o fd cd o1 o2 o3 fk o4 o5 hbt=>?_
 have hlen : (fns k).pars.length = ((C.par k).args.map (·.arg)).length:=S.slot.length
 refine ex1_2 (hbt as vals va (by rw [← hlen]; exact bindP_len hb)) fun vals' va' bt=>?_
 have hroom : A.depth < PySem.recursionLimit:=by have:=rd.dep; show A.depth < 1000; lia
 refine call_any hroom o1 o3 (by rw [fk.sco]; exact S.co) (by rw [fk.sco]; exact S.gen) o4 o5 fun q=>bt _ _ _ _ ?_
 refine enter_fn S fk r hb va' st fun env s₁ φ' H' ns hL k1 k2 k3 k4 k5 k6=>⟨hlim.keeps fun b o e=>k3.base b o e,?_⟩
 have rd' : Rdy (A.deeper env) (env :: l) d:=⟨Around.frames_deeper rd.fr,rd.han,by have:=rd.dep; show A.depth + 1 + d ≤ 900; lia,by have:=rd.uni; show A.units + 3 + 8 * d ≤ 9000; lia⟩
 have B':=B (A.deeper env) env φ' H' s₁ ρ (ns ++ cl) rd' k3 k6 k4 k5
 have e0 : ∀ (m : List Nat→M V),((newCells cv >>= m) H) = m ns H':=fun m=>by show M.bind _ _ H = _; unfold M.bind; rw [k1]
 rw [fk.bod]
 induction hF : (fns k).body with
 | inl b=>
  rw [hF] at B' hne
  induction hbo : C.bod k with
  | expr e=>rw [hbo] at B'; exact B'.elim
  | stmts pb=>
   rw [hbo] at B'
   dsimp only at B' hne ⊢
   rw [e0] at hne
   have hm : ih.ss (ns ++ cl) ρ b H' ≠ .stuck:=fun z=>hne (by show M.bind _ _ H' = _; unfold M.bind; rw [z])
   refine codeAny_func (wpAny_mono (B' hm) ?_ ?_)
   ·intro f s₂ zq; obtain ⟨x,ρ',H₂,φ₂,z1,z2,z3,z4,z5⟩:=zq
    have e1 : ∀ v,(match x with | .ret v=>Pure.pure v | .nxt=>Pure.pure V.none | .brk=>Mp.stuck : M V) H₂ = .ok v H₂→((newCells cv >>= fun own=>ih.ss (own ++ cl) ρ b >>= fun p=>match p with | (f,_)=>match f with | .ret v=>Pure.pure v | .nxt=>Pure.pure V.none | .brk=>Mp.stuck) H) = .ok v H₂:=fun v hv=>by
     rw [e0]
     refine (?_ : M.bind _ _ H' = _)
     unfold M.bind
     rw [z1]; exact hv
    induction x with
    | nxt=>induction f <;> first | exact z4.elim | exact ⟨.none,H₂,φ₂,e1 _ rfl,k2.transL z2 hL,z3,.none⟩
    | brk=>
     refine absurd ?_ hne
     refine (?_ : M.bind _ _ H' = _)
     unfold M.bind
     rw [z1]; rfl
    | ret v=>induction f <;> first | exact z4.elim | exact ⟨v,H₂,φ₂,e1 _ rfl,k2.transL z2 hL,z3,z4⟩
   ·intro ce s₂ zq; obtain ⟨n,H₂,φ₂,z1,z2,z3,z4,mm,z5⟩:=zq
    refine leave_ok (φ₀:=φ) (H₀:=H) (s₀:=s) rd'.fr k5 (k2.transL z2 hL) z3 (k6.extL z2 z5) (by rw [k5] at z4; exact z4.old k2.live) fun s' w1 w2 w3=>⟨n,H₂,φ₂,?_,w1,w2,w3⟩
    rw [e0]
    refine (?_ : M.bind _ _ H' = _)
    unfold M.bind
    rw [z1]
 | inr e=>
  rw [hF] at B' hne
  induction hbo : C.bod k with
  | stmts e=>rw [hbo] at B'; exact B'.elim
  | expr pe=>
   rw [hbo] at B'
   dsimp only at B' hne ⊢
   rw [e0] at hne
   refine kla_codeExpr (wpAny_mono (B' hne) ?_ ?_)
   ·intro v s₂ zq; obtain ⟨x,H₂,φ₂,z1,z2,z3,z4⟩:=zq
    exact ⟨x,H₂,φ₂,by rw [e0]; exact z1,k2.trans z2,z3,z4⟩
   ·intro ce s₂ zq; obtain ⟨n,H₂,φ₂,z1,z2,z3,z4⟩:=zq
    exact leave_ok (φ₀:=φ) (H₀:=H) (s₀:=s) rd'.fr k5 (k2.trans z2) z3 (k6.ext z2) (by rw [k5] at z4; exact z4.old k2.live) fun s' w1 w2 w3=>⟨n,H₂,φ₂,by rw [e0]; exact z1,w1,w2,w3⟩
end
section
variable {C : Cx} {A : Around} {fl : Option Addr} {φ : Nat→Addr} {H : List O} {s : Shared} {l : List Env} {d : Nat}
noncomputable def FnB (C : Cx) (k : Nat) (F : Fn) : Prop:=
 ∃ o fd cd,C.base.get? (C.fa k) = some o∧o.cls = .type "function"∧o.data = .func fd∧(∀ φ N,FdOk C φ N k [] fd)∧fd.code = .ref cd∧CodeAt C.base cd ∧
  ∀ φ N as vals (s : Shared),(∀ b o,C.base.get? b = some o→s.heap.get? b = some o)→All2 (VR C φ N) as vals→(fillD F as).length = ((C.par k).args.map (·.arg)).length →
   ∃ vals',All2 (VR C φ N) (fillD F as) vals'∧BindsTo s fd ⟨vals,[]⟩ (((C.par k).args.map (·.arg)).zip vals')
noncomputable def ExcMake (C : Cx) : Prop:=∀ {A : Around} {s : Shared} {vals : List Value} {Q : Value→Shared→Prop} {E : Value→Shared→Prop},(∀ b o,C.base.get? b = some o→s.heap.get? b = some o)→vals.length ≤ 100000 →
 (∀ h' e,Heap.MadeExcOf s.heap h' e (.ref (C.ca 1)) vals→wpAny (model C.prog C.w) (A.under (.builtin "type.__call__" ⟨.ref (C.ca 1) :: vals,[]⟩)) (call (.ref (C.fa (iniT 1))) (.ref e :: vals)) (fun r s'=>r = .none∧Q (.ref e) s') E { s with heap:=h' }) →
 wpAny (model C.prog C.w) A (call (.ref (C.ca 1)) vals) Q E s
structure Good2 (C : Cx) : Prop where
 lim : C.base.NoLimit
 mak : ∀ c,Nat.blt c 6 = true→Nat.beq c 1 = false→isB (iniT c) = true→makesIn C.K (C.ca c) = true∧findIn C.K (.ref (C.ca c)) "__init__" = some (some (.ref (C.fa (iniT c))))∧typeIn C.K (.ref (C.fa (iniT c))) = some (.type "function")
 gm : ∀ c,Nat.blt c 6 = true→Nat.beq c 1 = false→findIn C.K (.ref (C.ca c)) "__getattribute__" = some (some (.builtin "object.__getattribute__"))∧findIn C.K (.ref (C.ca c)) "__getattr__" = some none
 keepC : ∀ c,Nat.blt c 6 = true→keepIn C.K (.ref (C.ca c)) = true
 exc : ExcMake C
 fnB : ∀ k,isB k = true→FnB C k (fnT k)
 fnS : ∀ k,isB k = true ∨ isC k = true→FnS C k (fnT k)
 dfl : ∀ k,isC k = true→(fnT k).dfl = []
theorem base_call {k : Nat} (G2 : Good2 C) (hk : isB k = true) (r : Rel C φ H s.heap) : CallOk C (fnT k) φ H s k [] (C.fa k):=by
 refine ex3_7 (G2.fnB k hk) fun o fd cd h1 h2 h3 h4 h5 h6 h7=>?_
 exact ⟨o,fd,cd,r.base _ _ h1,h2,h3,h4 _ _,h5,h6.keep fun o e=>⟨o.slots,r.base _ _ e⟩,fun as vals a b=>h7 _ _ as vals s r.base a b⟩
theorem clo_call {n k : Nat} {cs : List Nat} (G2 : Good2 C) (hk : isC k = true) (r : Rel C φ H s.heap) (e : H[n]? = some (.clo k cs)) : CallOk C (fnT k) φ H s k cs (φ n):=by
 refine ex1_2 (r.obj n _ e) fun ob h1 h2=>?_
 refine ex4_6 h2.inv fun fd cd dd sl z a b c d f=>?_
 subst z
 refine ⟨_,fd,cd,h1,rfl,rfl,a,c,d,fun as vals va hl=>?_⟩
 have e0 : fillD (fnT k) as = as:=by unfold fillD; rw [G2.dfl k hk]
 rw [e0] at hl ⊢
 have S:=G2.fnS k (.inr hk)
 refine in1_2 vals va ?_
 have:=@binds_exact s fd vals (by rw [a.par]; exact S.pos) (by rw [a.par]; exact S.kwo) (by rw [a.par]; exact S.va) (by rw [a.par]; exact S.kwa) b (by rw [a.par]; exact S.nod) (by rw [a.par,← hl]; exact va.length.symm)
 rw [a.par] at this
 exact this
noncomputable def FnOk (C : Cx) (n : Nat) (ih : Ev) : Prop:=∀ {A : Around} {fl : Option Addr} {φ : Nat→Addr} {H : List O} {s : Shared} {l : List Env} {k : Nat} {cl : List Nat} {a : Addr} {as : List V} {vals : List Value},
 Rdy A l n→Rel C φ H s.heap→StkOk C φ H.length l s.heap→(isB k = true ∨ isC k = true)→CallOk C (fnT k) φ H s k cl a→All2 (VR C φ H.length) as vals→SimCall C A fl (ih.fn k cl as) (.ref a) vals φ H s
theorem under_rdy {vals : List Value} {a : Addr} (rd : Rdy A l (d + 1)) : Rdy (A.under (.builtin "type.__call__" ⟨.ref a :: vals,[]⟩)) l d:=by
 refine ⟨?_,rd.han,?_,?_⟩
 ·refine (?_ : PySem.pushEnvs [] A.frames = _)
  exact rd.fr
 ·have:=rd.dep
  refine (?_ : A.depth + 1 + d ≤ 900)
  lia
 ·have:=rd.uni
  have e : (PySem.Code.builtin "type.__call__" ⟨.ref a :: vals,[]⟩).cUnits ≤ 8:=by
   refine (?_ : 1 + 3 * 0 ≤ 8)
   decide
  refine (?_ : A.units + (PySem.Code.builtin "type.__call__" ⟨.ref a :: vals,[]⟩).cUnits + 8 * d ≤ 9000)
  lia
theorem all2_mono {φ' : Nat→Addr} {N N' : Nat} {as : List V} {vals : List Value} (h : All2 (VR C φ N) as vals) (hp : ∀ n,n < N→φ' n = φ n) (hN : N ≤ N') : All2 (VR C φ' N') as vals:=h.mono fun _ _ z=>z.mono hp hN
noncomputable def thenRef (x : V) : V→M V
 | .none=>Pure.pure x
 | _=>Mp.stuck
theorem VR.refE {N n : Nat} {a : Addr} (hn : n < N) (e : a = φ n) : VR C φ N (.ref n) (.ref a):=e ▸ .ref n hn
theorem OS.instE {N c d : Nat} {a : Addr} {h : Heap} {sl : Array (Option Value)} (hn : d < N) (e : a = φ d) : OS C φ N h (.inst c d) ⟨.ref (C.ca c),some a,.plain,sl⟩:=e ▸ .inst hn
theorem bind_at {α β : Type} {m : M α} {f : α→M β} {a : α} {H H' : List O} (e : m H = .ok a H') : (m >>= f) H = f a H':=bind_ok e
theorem bind_err {α β : Type} {m : M α} {f : α→M β} {n : Nat} {H H' : List O} (e : m H = .err n H') : (m >>= f) H = .err n H':=by
 refine (?_ : M.bind m f H = _)
 unfold M.bind
 rw [e]
theorem bind_stuck {α β : Type} {m : M α} {f : α→M β} {H : List O} (e : m H = .stuck) : (m >>= f) H = .stuck:=by
 refine (?_ : M.bind m f H = _)
 unfold M.bind
 rw [e]
theorem p_new {ih : Ev} {n c : Nat} {as : List V} {vals : List Value} (G : Good C) (G2 : Good2 C) (FN : FnOk C n ih) (r : Rel C φ H s.heap) (st : StkOk C φ H.length l s.heap) (rd : Rdy A l (n + 1)) (va : All2 (VR C φ H.length) as vals) (hc : Nat.blt c 6 = true) (hi : isB (iniT c) = true) (hz : vals.length ≤ 100000) :
  Sim C A fl (VH C) ((if excT c then new (.exc c none false) else do
   let d ← new (.attrs [])
   new (.inst c d)) >>= fun x=>ih.fn (iniT c) [] (.ref x :: as) >>= thenRef (.ref x)) (call (.ref (C.ca c)) vals) φ H s:=by
 induction hx : excT c with
 | true=>
  have h1 : c = 1:=Nat.eq_of_beq_eq_true hx
  subst h1
  intro hne
  rw [if_pos rfl] at hne ⊢
  refine G2.exc r.base hz fun h' e ⟨m1,m2,t,m3,_,_⟩=>?_
  obtain ⟨x1,x2⟩:=Rel.add (tk:=s.toks) (o:=.exc 1 none false) r m1 m3 m2 (.exc (d:=none) (fun n e=>by injection e) (by simp) (fun _=>rfl))
  have hlen1 : H.length < (H ++ [O.exc 1 none false]).length:=by simp
  have e0 : ∀ (f : Nat→M V),((new (.exc 1 none false) >>= f) H) = f H.length (H ++ [.exc 1 none false]):=fun f=>rfl
  rw [e0] at hne
  have:=FN (A:=A.under (.builtin "type.__call__" ⟨.ref (C.ca 1) :: vals,[]⟩)) (fl:=fl) (s:={ s with heap:=h' }) (k:=iniT 1) (cl:=[]) (a:=C.fa (iniT 1)) (as:=.ref H.length :: as) (vals:=.ref e :: vals) (under_rdy rd) x2 (st.ext x1) (.inl hi) (base_call G2 hi x2)
   (.cons (.refE hlen1 addφ_at.symm) (all2_mono va (fun n hn=>addφ_lt hn) (Nat.le_of_lt hlen1)))
  refine wpAny_mono (this.sim fun z=>hne (bind_stuck z)) ?_ ?_
  ·intro rv s₂ zq; obtain ⟨v,H₂,φ₂,q1,q2,q3,q4⟩:=zq
   have e1 : (ih.fn (iniT 1) [] (.ref H.length :: as) >>= thenRef (.ref H.length)) (H ++ [.exc 1 none false]) = thenRef (.ref H.length) v H₂:=bind_at q1
   rw [e1] at hne
   induction q4 <;> try exact absurd rfl hne
   refine ⟨rfl,.ref H.length,H₂,φ₂,by rw [e0,e1]; rfl,x1.trans q2,q3,?_⟩
   have hlen : H.length < (H ++ [O.exc 1 none false]).length:=by simp
   have : φ₂ H.length = e:=by rw [q2.phi _ hlen,addφ_at]
   rw [← this]
   exact .ref _ (Nat.lt_of_lt_of_le hlen q2.len)
  ·intro ce s₂ zq; obtain ⟨m,H₂,φ₂,q1,q2,q3,q4⟩:=zq
   refine ⟨m,H₂,φ₂,?_,x1.trans q2,q3,q4.old x1.live⟩
   rw [e0]
   exact bind_err q1
 | false=>
  intro hne
  rw [if_neg (by simp)] at hne ⊢
  have hb : Nat.beq c 1 = false:=hx
  refine ex0_3 (G2.mak c hc hb hi) fun k1 k2 k3=>?_
  have X:=G.K_in r
  obtain ⟨hh,g,dr,t,os⟩:=s
  refine wpAny_call (make_core (makes_of X k1) (looks_findIn X k2) (fun self=>bind_fn X self k3) (.inl rfl) ?_)
  obtain ⟨x1,x2⟩:=Rel.add (s:=⟨hh,g,dr,t,os⟩) (tk:=t) (o:=.attrs []) (h':=hh.push emptyDict) (a:=hh.objs.size) r (fun b o e=>Heap.get?_push_of_some _ e) (Heap.get?_push_size _ rfl) (get_size_none _) (.attrs (es:=[]) (ep:=0) .nil (by simp))
  have hlen2 : H.length < (H ++ [O.attrs []]).length + 1:=by simp; lia
  obtain ⟨y1,y2⟩:=Rel.add (s:=⟨hh.push emptyDict,g,dr,t,os⟩) (tk:=t) (o:=.inst c H.length) (h':=(hh.push emptyDict).push (instObj (C.ca c) hh.objs.size)) (a:=(hh.push emptyDict).objs.size) x2 (fun b o e=>Heap.get?_push_of_some _ e) (Heap.get?_push_size _ rfl) (get_size_none _)
   (.instE hlen2 (by rw [addφ_lt (by simp),addφ_at]))
  have xy:=x1.trans y1
  have esz : (hh.push emptyDict).objs.size = hh.objs.size + 1:=Heap.size_push ..
  have e0 : ∀ (f : Nat→M V),(((do let d ← new (.attrs []); new (.inst c d) : M Nat) >>= f) H) = f (H.length + 1) (H ++ [.attrs []] ++ [.inst c H.length]):=fun f=>by
   refine (?_ : M.bind (M.bind _ _) f H = _)
   unfold M.bind new
   simp
  rw [e0] at hne
  have hlen : H.length + 1 < (H ++ [O.attrs []] ++ [O.inst c H.length]).length:=by simp
  have:=FN (A:=A.under (.builtin "type.__call__" ⟨.ref (C.ca c) :: vals,[]⟩)) (fl:=fl) (s:=⟨(hh.push emptyDict).push (instObj (C.ca c) hh.objs.size),g,dr,t,os⟩) (k:=iniT c) (cl:=[]) (a:=C.fa (iniT c)) (as:=.ref (H.length + 1) :: as) (vals:=.ref (hh.objs.size + 1) :: vals) (under_rdy rd) y2 (st.ext xy) (.inl hi) (base_call G2 hi y2)
   (.cons (.refE hlen (by rw [show H.length + 1 = (H ++ [O.attrs []]).length by simp,addφ_at,esz])) (all2_mono va xy.phi xy.len))
  refine codeAny_mono (this fun z=>hne (bind_stuck z)) ?_
  rintro (ce | (_ | _ | _ | rv)) s₂ z
  ·obtain ⟨m,H₂,φ₂,q1,q2,q3,q4⟩:=z
   refine ⟨m,H₂,φ₂,?_,xy.trans q2,q3,q4.old xy.live⟩
   rw [e0]
   exact bind_err q1
  iterate 3 exact z.elim
  ·obtain ⟨v,H₂,φ₂,q1,q2,q3,q4⟩:=z
   have e1 : (ih.fn (iniT c) [] (.ref (H.length + 1) :: as) >>= thenRef (.ref (H.length + 1))) (H ++ [.attrs []] ++ [.inst c H.length]) = thenRef (.ref (H.length + 1)) v H₂:=bind_at q1
   rw [e1] at hne
   induction q4 <;> try exact absurd rfl hne
   refine ⟨rfl,.ref (H.length + 1),H₂,φ₂,by rw [e0,e1]; rfl,xy.trans q2,q3,?_⟩
   have : φ₂ (H.length + 1) = hh.objs.size + 1:=by
    rw [q2.phi _ hlen,show H.length + 1 = (H ++ [O.attrs []]).length by simp,addφ_at,esz]
   rw [← this]
   exact .ref _ (Nat.lt_of_lt_of_le hlen q2.len)
theorem p_callV {ih : Ev} {n : Nat} {f : V} {cf : Value} {as : List V} {vals : List Value} (G : Good C) (G2 : Good2 C) (FN : FnOk C n ih) (r : Rel C φ H s.heap) (st : StkOk C φ H.length l s.heap) (rd : Rdy A l (n + 1)) (vf : VR C φ H.length f cf) (va : All2 (VR C φ H.length) as vals) (hz : vals.length ≤ 100000) :
  Sim C A fl (VH C) (callV iniT excT isB isC ih f as) (call cf vals) φ H s:=by
 induction vf <;> try exact Sim.stuck
 case ref m hm=>
  refine Sim.getO fun o1 e1=>?_
  induction o1 <;> try exact Sim.stuck
  rename_i k cs
  show Sim C A fl _ (if _ then _ else _) _ φ H s
  split
  ·rename_i hk
   exact (FN (rd.less (Nat.le_succ _)) r st (.inr hk) (clo_call G2 hk r e1) va).sim
  ·exact Sim.stuck
 case fn k=>
  show Sim C A fl _ (if _ then _ else _) _ φ H s
  split
  ·rename_i hk
   exact (FN (rd.less (Nat.le_succ _)) r st (.inl hk) (base_call G2 hk r) va).sim
  ·exact Sim.stuck
 case cls c=>
  show Sim C A fl _ (if _ then _ else _) _ φ H s
  split
  ·rename_i hk
   rw [Bool.and_eq_true] at hk
   exact p_new G G2 FN r st rd va hk.1 hk.2 hz
  ·exact Sim.stuck
 case ty k=>exact p_ty va r
 case blt k=>exact p_blt G rd va r
end
section
variable {C : Cx} {A : Around} {fl : Option Addr} {φ : Nat→Addr} {H : List O} {s : Shared} {l : List Env} {d : Nat}
noncomputable def mName (C : Cx) (m : Nat) : Str:=if m < 60 then C.an m else bltMn m
inductive CstR : V→PySem.Const→Prop
 | none : CstR .none .none
 | bool {b : Bool} : CstR (.bool b) (.bool b)
 | int {i : Int} : CstR (.int i) (.int i)
 | bytes {bs : List UInt8} : bs.length ≤ 1000→CstR (.bytes (bs.map UInt8.toNat)) (.bytes bs)
 | str {x : Str} : CstR (.str x.cps.toList) (.str x)
inductive OptO (R : E→Expr→Prop) : Option E→Option Expr→Prop
 | none : OptO R none none
 | some {a b} : R a b→OptO R (some a) (some b)
inductive OptL (R : E→Expr→Prop) : Option E→List Expr→Prop
 | none : OptL R none []
 | some {a b} : R a b→OptL R (some a) [b]
noncomputable abbrev TrI (C : Cx) (cdv : Value) (R : Scope→E→Expr→Prop) (sc : Scope) (e : E) (pe : Expr) : Prop:=match e with
 | .oth=>True
 | .cst v=>∃ c k p,pe = .Constant c k p∧CstR v c
 | .loc x=>∃ nm p,pe = .Name nm p∧(localNames sc)[x]? = some nm∧(nm == ("__debug__" : Str)) = false
 | .cel x=>∃ nm p,pe = .Name nm p∧(celNames sc)[x]? = some nm∧(nm == ("__debug__" : Str)) = false∧(nm == ("__classdict__" : Str)) = false
 | .glo v=>∃ cv nm p,pe = .Name nm p∧(nm,PySem.NameKind.globalImplicit) ∈ sc.names∧(nm == ("__debug__" : Str)) = false∧(C.mg nm = some cv ∨ (C.mg nm = none∧C.mb nm = some cv))∧∀ φ N,VR C φ N v cv
 | .not a=>∃ pa p,pe = .UnaryOp .Not pa p∧R sc a pa
 | .neg a=>∃ pa p,pe = .UnaryOp .USub pa p∧R sc a pa
 | .and as=>∃ pas p,pe = .BoolOp .And pas p∧All2 (R sc) as pas
 | .or as=>∃ pas p,pe = .BoolOp .Or pas p∧All2 (R sc) as pas
 | .ite c a b=>∃ pc pa pb p,pe = .IfExp pc pa pb p∧R sc c pc∧R sc a pa∧R sc b pb
 | .bin o a b=>∃ pa pb p,pe = .BinOp pa (opOf o) pb p∧R sc a pa∧R sc b pb
 | .cmp o a b=>∃ pa pb p,pe = .Compare pa [cmpOf o] [pb] p∧R sc a pa∧R sc b pb∧PySem.behindInMarks (cmpOf o) pb = false
 | .call f as=>∃ pf pas p,pe = .Call pf pas [] p∧R sc f pf∧All2 (R sc) as pas∧notAttr pf = true∧pas.all notStar = true∧pas.length ≤ 100
 | .meth o m as=>∃ po pas ap p,pe = .Call (.Attribute po (mName C m) ap) pas [] p∧R sc o po∧All2 (R sc) as pas∧notCall po = true∧pas.all notStar = true∧pas.length ≤ 20∧(ap.endLine == p.line) = true
 | .attr o m=>∃ po p,pe = .Attribute po (C.an m) p∧R sc o po∧notCall po = true
 | .lst as=>∃ pas p,pe = .List pas p∧All2 (R sc) as pas∧pas.all notStar = true∧pas.length ≤ 1000
 | .tup as=>∃ pas k p,pe = .Tuple pas k p∧All2 (R sc) as pas∧pas.all notStar = true∧pas.length ≤ 1000
 | .dic=>∃ p,pe = .Dict [] [] p
 | .sub o i=>∃ po pi p,pe = .Subscript po pi p∧R sc o po∧R sc i pi∧notSlice pi = true
 | .slc o lo hi=>∃ po plo phi p2 p,pe = .Subscript po (.Slice plo phi none p2) p∧R sc o po∧OptO (R sc) lo plo∧OptO (R sc) hi phi
 | .lam k c=>∃ pargs pbody lsc p P cd,pe = .Lambda pargs pbody lsc p∧isC k = true∧C.par k = pargs∧C.bod k = .expr pbody∧C.sco k = lsc∧pargs.defaults = []∧pargs.kw_defaults = []∧All2 (fun (j : Nat) x=>(celNames sc)[j]? = some x) c (freeNames lsc)∧C.cod k = .none ∧
   cdv = .ref cd∧CodeHd C.base cd P∧P ∈ C.tabs
 | .comp elt x nl c it cond=>∃ pelt nm tp piter ifs csc p,pe = .ListComp pelt [⟨.Name nm tp,piter,ifs,0⟩] csc p∧R sc it piter∧R csc elt pelt∧OptL (R csc) cond ifs∧csc.kind = .function∧(csc.names.map (·.1)).Nodup∧cellNames csc = [] ∧
   (localNames csc)[x]? = some nm∧(localNames csc).length = nl∧All2 (fun (j : Nat) y=>(celNames sc)[j]? = some y) c (freeNames csc)∧notSet piter = true
noncomputable def TrEn (C : Cx) (cdv : Value) : Nat→Scope→E→Expr→Prop
 | 0=>fun _ _ _=>False
 | n + 1=>TrI C cdv (TrEn C cdv n)
noncomputable def TrE (C : Cx) (cdv : Value) (sc : Scope) (e : E) (pe : Expr) : Prop:=∃ n,TrEn C cdv n sc e pe
noncomputable abbrev TrEs (C : Cx) (cdv : Value) (sc : Scope) : List E→List Expr→Prop:=All2 (TrE C cdv sc)
noncomputable abbrev TrO (C : Cx) (cdv : Value) (sc : Scope) : Option E→Option Expr→Prop:=OptO (TrE C cdv sc)
noncomputable abbrev TrL (C : Cx) (cdv : Value) (sc : Scope) : Option E→List Expr→Prop:=OptL (TrE C cdv sc)
theorem OptO.mono {R R' : E→Expr→Prop} {a : Option E} {b : Option Expr} (f : ∀ e p,R e p→R' e p) : OptO R a b→OptO R' a b
 | .none=>.none
 | .some h=>.some (f _ _ h)
theorem OptL.mono {R R' : E→Expr→Prop} {a : Option E} {b : List Expr} (f : ∀ e p,R e p→R' e p) : OptL R a b→OptL R' a b
 | .none=>.none
 | .some h=>.some (f _ _ h)
theorem TrI.mono {cdv : Value} {R R' : Scope→E→Expr→Prop} {sc : Scope} {e : E} {pe : Expr} (f : ∀ sc e p,R sc e p→R' sc e p) : TrI C cdv R sc e pe→TrI C cdv R' sc e pe:=by
 induction e using Mp.E.casesOn with
 | not a=>exact fun h=>ex2_2 h fun a1 a2 q h=>⟨a1,a2,q,f _ _ _ h⟩
 | neg a=>exact fun h=>ex2_2 h fun a1 a2 q h=>⟨a1,a2,q,f _ _ _ h⟩
 | and as=>exact fun h=>ex2_2 h fun a1 a2 q h=>⟨a1,a2,q,h.mono (f _)⟩
 | or as=>exact fun h=>ex2_2 h fun a1 a2 q h=>⟨a1,a2,q,h.mono (f _)⟩
 | ite c a b=>exact fun h=>ex4_2 h fun a1 a2 a3 a4 q h=>⟨a1,a2,a3,a4,q,f _ _ _ h.1,f _ _ _ h.2.1,f _ _ _ h.2.2⟩
 | bin o a b=>exact fun h=>ex3_2 h fun a1 a2 a3 q h=>⟨a1,a2,a3,q,f _ _ _ h.1,f _ _ _ h.2⟩
 | cmp o a b=>exact fun h=>ex3_2 h fun a1 a2 a3 q h=>⟨a1,a2,a3,q,f _ _ _ h.1,f _ _ _ h.2.1,h.2.2⟩
 | call g as=>exact fun h=>ex3_2 h fun a1 a2 a3 q h=>⟨a1,a2,a3,q,f _ _ _ h.1,h.2.1.mono (f _),h.2.2⟩
 | meth o m as=>exact fun h=>ex4_2 h fun a1 a2 a3 a4 q h=>⟨a1,a2,a3,a4,q,f _ _ _ h.1,h.2.1.mono (f _),h.2.2⟩
 | attr o m=>exact fun h=>ex2_2 h fun a1 a2 q h=>⟨a1,a2,q,f _ _ _ h.1,h.2⟩
 | lst as=>exact fun h=>ex2_2 h fun a1 a2 q h=>⟨a1,a2,q,h.1.mono (f _),h.2⟩
 | tup as=>exact fun h=>ex3_2 h fun a1 a2 a3 q h=>⟨a1,a2,a3,q,h.1.mono (f _),h.2⟩
 | sub o i=>exact fun h=>ex3_2 h fun a1 a2 a3 q h=>⟨a1,a2,a3,q,f _ _ _ h.1,f _ _ _ h.2.1,h.2.2⟩
 | slc o lo hi=>exact fun h=>ex5_2 h fun a1 a2 a3 a4 a5 q h=>⟨a1,a2,a3,a4,a5,q,f _ _ _ h.1,h.2.1.mono (f _),h.2.2.mono (f _)⟩
 | comp elt x nl c it cond=>exact fun h=>ex7_2 h fun a1 a2 a3 a4 a5 a6 a7 q h=>⟨a1,a2,a3,a4,a5,a6,a7,q,f _ _ _ h.1,f _ _ _ h.2.1,h.2.2.1.mono (f _),h.2.2.2⟩
 | _=>exact id
theorem TrE.inv {cdv : Value} {sc : Scope} {e : E} {pe : Expr} (h : TrE C cdv sc e pe) : TrI C cdv (TrE C cdv) sc e pe:=
 h.elim fun n h=>match n,h with
 | n + 1,h=>TrI.mono (fun _ _ _ h=>⟨n,h⟩) h
structure St (C : Cx) (A : Around) (l : List Env) (n : Nat) (φ : Nat→Addr) (H : List O) (s : Shared) (cdv : Value) (sc : Scope) (cs : List Nat) (ρ : Lo) (env : Env) : Prop where
 rd : Rdy A l n
 r : Rel C φ H s.heap
 st : StkOk C φ H.length l s.heap
 en : EnvOk C φ H.length cdv sc cs ρ s.heap env
section
variable {n : Nat} {cdv : Value} {sc : Scope} {cs : List Nat} {ρ : Lo} {env : Env}
theorem St.ext {φ' : Nat→Addr} {H' : List O} {s' : Shared} (x : St C A l n φ H s cdv sc cs ρ env) (y : Ext C φ H s φ' H' s') (r : Rel C φ' H' s'.heap) : St C A l n φ' H' s' cdv sc cs ρ env:=⟨x.rd,r,x.st.ext y,x.en.ext y⟩
theorem St.less {m : Nat} (x : St C A l n φ H s cdv sc cs ρ env) (h : m ≤ n) : St C A l m φ H s cdv sc cs ρ env:=⟨x.rd.less h,x.r,x.st,x.en⟩
theorem St.down (x : St C A l (n + 1) φ H s cdv sc cs ρ env) : St C A l n φ H s cdv sc cs ρ env:=x.less (Nat.le_succ n)
end
noncomputable abbrev VsH (C : Cx) : (Nat→Addr)→Nat→Heap→List V→List Value→Prop:=fun φ N _ vs cs=>All2 (VR C φ N) vs cs
noncomputable def SndE (C : Cx) (n : Nat) : Prop:=∀ {A : Around} {l : List Env} {φ : Nat→Addr} {H : List O} {s : Shared} {cdv : Value} {sc : Scope} {cs : List Nat} {ρ : Lo} {env : Env} {e : E} {pe : Expr},
 St C A l n φ H s cdv sc cs ρ env→TrE C cdv sc e pe→Sim C A env.frame (VH C) ((ev n).e cs ρ e) (eval pe env) φ H s
noncomputable def SndT (C : Cx) (n : Nat) : Prop:=∀ {A : Around} {l : List Env} {φ : Nat→Addr} {H : List O} {s : Shared} {cdv : Value} {sc : Scope} {cs : List Nat} {ρ : Lo} {env : Env} {e : E} {pe : Expr},
 St C A l n φ H s cdv sc cs ρ env→TrE C cdv sc e pe→Sim C A env.frame BH ((ev n).t cs ρ e) (isTrue pe env (eval pe env)) φ H s
noncomputable def SndEs (C : Cx) (n : Nat) : Prop:=∀ {A : Around} {l : List Env} {φ : Nat→Addr} {H : List O} {s : Shared} {cdv : Value} {sc : Scope} {cs : List Nat} {ρ : Lo} {env : Env} {es : List E} {pes : List Expr} {pos : Pos},
 St C A l n φ H s cdv sc cs ρ env→TrEs C cdv sc es pes→pes.all notStar = true→Sim C A env.frame (VsH C) ((ev n).es cs ρ es) (spliced (backTo pos (starEach pes env))) φ H s
noncomputable def SndAnd (C : Cx) (n : Nat) : Prop:=∀ {A : Around} {l : List Env} {φ : Nat→Addr} {H : List O} {s : Shared} {cdv : Value} {sc : Scope} {cs : List Nat} {ρ : Lo} {env : Env} {es : List E} {pes : List Expr} {pos : Pos},
 St C A l n φ H s cdv sc cs ρ env→TrEs C cdv sc es pes→Sim C A env.frame (VH C) ((ev n).ea cs ρ es) (boolOp pos .And (evalEach pes env)) φ H s∧Sim C A env.frame (VH C) ((ev n).eo cs ρ es) (boolOp pos .Or (evalEach pes env)) φ H s ∧
  Sim C A env.frame BH ((ev n).ta cs ρ es) (allTrue .And pes env) φ H s∧Sim C A env.frame BH ((ev n).to cs ρ es) (allTrue .Or pes env) φ H s
theorem starEach_cons {e : Expr} {r : List Expr} {env : Env} (h : notStar e = true) : starEach (e :: r) env = (false,eval e env) :: starEach r env:=by
 induction e using Expr.casesOn <;> first | rfl | cases h
theorem spliced_bind (x : Sem Value) (rest : List (Bool × Sem Value)) : spliced ((false,x) :: rest) = x >>= fun v=>(pure [v] : Sem (List Value)) >>= fun here=>(holding here (spliced rest)) >>= fun vs=>pure (here ++ vs):=rfl
section
variable {n : Nat} {cdv : Value} {sc : Scope} {cs : List Nat} {ρ : Lo} {env : Env}
theorem snd_es (E0 : SndE C n) (Es : SndEs C n) : SndEs C (n + 1):=by
 intro A l φ H s cdv sc cs ρ env es pes pos x h ns
 induction h using All2.casesOn with
 | nil=>exact Sim.pure x.r .nil
 | @cons e pe es pes he hes=>
  rw [List.all_cons,Bool.and_eq_true] at ns
  rw [starEach_cons ns.1]
  refine (?_ : Sim C A _ _ ((ev n).e cs ρ e >>= fun v=>(ev n).es cs ρ es >>= fun vs=>Pure.pure (v :: vs)) (spliced ((false,eval pe env) :: backTo pos (starEach pes env))) φ H s)
  rw [spliced_bind]
  refine Sim.bind (E0 x.down he) fun v c H₁ φ₁ s₁ q1 x1 r1 v1=>?_
  rw [pure_bind]
  refine Sim.bind (Sim.holding (Es (x.down.ext x1 r1) hes ns.2)) fun vs cvs H₂ φ₂ s₂ q2 x2 r2 v2=>?_
  exact Sim.pure r2 (.cons (v1.mono x2.phi x2.len) v2)
theorem snd_and (E0 : SndE C n) (T0 : SndT C n) (An : SndAnd C n) : SndAnd C (n + 1):=by
 intro A l φ H s cdv sc cs ρ env es pes pos x h
 induction h using All2.casesOn with
 | nil=>exact in0_4 Sim.stuck Sim.stuck (Sim.pure x.r rfl) (Sim.pure x.r rfl)
 | @cons e pe es pes he hes=>
  refine in0_4 ?_ ?_ ?_ ?_
  ·induction hes using All2.casesOn with
   | nil=>exact E0 x.down he
   | @cons e' pe' es pes he' hes=>
    show Sim C A _ _ ((ev n).e cs ρ e >>= fun v=>truth v >>= fun b=>if b then (ev n).ea cs ρ (e' :: es) else Pure.pure v) (eval pe env >>= fun v=>standAt pos >>= fun _=>holding [v] (truthy v) >>= fun t=>match PySem.BoolOp.And,t with
     | .And,false | .Or,true=>pure v
     | _,_=>boolOp pos .And (evalEach (pe' :: pes) env)) φ H s
    refine Sim.bind (E0 x.down he) fun v c H₁ φ₁ s₁ q1 x1 r1 v1=>Sim.standAt ?_
    refine Sim.bind (Sim.holding (p_truth v1 r1)) fun b c' H₂ φ₂ s₂ q2 x2 r2 v2=>?_
    subst v2
    induction b
    ·exact Sim.pure r2 (v1.mono x2.phi x2.len)
    ·exact (An ((x.down.ext x1 r1).ext x2 r2) (.cons he' hes)).1
  ·induction hes using All2.casesOn with
   | nil=>exact E0 x.down he
   | @cons e' pe' es pes he' hes=>
    show Sim C A _ _ ((ev n).e cs ρ e >>= fun v=>truth v >>= fun b=>if b then Pure.pure v else (ev n).eo cs ρ (e' :: es)) (eval pe env >>= fun v=>standAt pos >>= fun _=>holding [v] (truthy v) >>= fun t=>match PySem.BoolOp.Or,t with
     | .And,false | .Or,true=>pure v
     | _,_=>boolOp pos .Or (evalEach (pe' :: pes) env)) φ H s
    refine Sim.bind (E0 x.down he) fun v c H₁ φ₁ s₁ q1 x1 r1 v1=>Sim.standAt ?_
    refine Sim.bind (Sim.holding (p_truth v1 r1)) fun b c' H₂ φ₂ s₂ q2 x2 r2 v2=>?_
    subst v2
    induction b
    ·exact (An ((x.down.ext x1 r1).ext x2 r2) (.cons he' hes)).2.1
    ·exact Sim.pure r2 (v1.mono x2.phi x2.len)
  ·show Sim C A _ _ ((ev n).t cs ρ e >>= fun b=>if b then (ev n).ta cs ρ es else Pure.pure false) (isTrue pe env (eval pe env) >>= fun t=>match PySem.BoolOp.And,t with
     | .And,false=>pure false
     | .Or,true=>pure true
     | _,_=>allTrue .And pes env) φ H s
   refine Sim.bind (T0 x.down he) fun b c H₁ φ₁ s₁ q1 x1 r1 v1=>?_
   subst v1
   induction b
   ·exact Sim.pure r1 rfl
   ·exact (An (pos:=pos) (x.down.ext x1 r1) hes).2.2.1
  ·show Sim C A _ _ ((ev n).t cs ρ e >>= fun b=>if b then Pure.pure true else (ev n).to cs ρ es) (isTrue pe env (eval pe env) >>= fun t=>match PySem.BoolOp.Or,t with
     | .And,false=>pure false
     | .Or,true=>pure true
     | _,_=>allTrue .Or pes env) φ H s
   refine Sim.bind (T0 x.down he) fun b c H₁ φ₁ s₁ q1 x1 r1 v1=>?_
   subst v1
   induction b
   ·exact (An (pos:=pos) (x.down.ext x1 r1) hes).2.2.2
   ·exact Sim.pure r1 rfl
theorem s_isTrue_value {e : E} {pe : Expr} (E0 : SndE C n) (x : St C A l n φ H s cdv sc cs ρ env) (he : TrE C cdv sc e pe) (h : isTrue pe env (eval pe env) = (do let v ← eval pe env; standAt pe.pos; holding [v] (truthy v))) :
  Sim C A env.frame BH ((ev n).e cs ρ e >>= truth) (isTrue pe env (eval pe env)) φ H s:=by
 rw [h]
 refine Sim.bind (E0 x he) fun v c H₁ φ₁ s₁ q1 x1 r1 v1=>Sim.standAt (Sim.holding (p_truth v1 r1))
theorem snd_t (E0 : SndE C n) (T0 : SndT C n) (An : SndAnd C n) : SndT C (n + 1):=by
 intro A l φ H s cdv sc cs ρ env e pe x he
 have he':=he
 induction e using Mp.E.casesOn with
 | not a=>
  (refine ex2_2 he.inv fun pa p z1q ha=>?_; subst z1q)
  refine (?_ : Sim C A _ _ ((ev n).t cs ρ _ >>= fun b=>Pure.pure (!b)) (isTrue _ env (eval _ env) >>= fun b=>pure (!b)) φ H s)
  refine Sim.bind (T0 x.down ha) fun b c H₁ φ₁ s₁ q1 x1 r1 v1=>?_
  subst v1
  exact Sim.pure r1 rfl
 | and as=>
  (refine ex2_2 he.inv fun pas p z2q h=>?_; subst z2q)
  exact (An (pos:=default) x.down h).2.2.1
 | or as=>
  (refine ex2_2 he.inv fun pas p z3q h=>?_; subst z3q)
  exact (An (pos:=default) x.down h).2.2.2
 | ite c a b=>
  (refine ex4_4 he.inv fun pc pa pb p z4q hc ha hb=>?_; subst z4q)
  refine (?_ : Sim C A _ _ ((ev n).t cs ρ _ >>= fun b=>if b then (ev n).t cs ρ _ else (ev n).t cs ρ _) (isTrue _ env (eval _ env) >>= fun b=>if b then isTrue _ env (eval _ env) else isTrue _ env (eval _ env)) φ H s)
  refine Sim.bind (T0 x.down hc) fun b c H₁ φ₁ s₁ q1 x1 r1 v1=>?_
  subst v1
  induction b
  ·exact T0 (x.down.ext x1 r1) hb
  ·exact T0 (x.down.ext x1 r1) ha
 | cmp o a b=>
  (refine ex3_4 he.inv fun pa pb p z5q ha hb hm=>?_; subst z5q)
  refine (?_ : Sim C A _ _ ((ev n).e cs ρ _ >>= truth) _ φ H s)
  have e0 : ∀ (o : PySem.CmpOp) (pa pb : Expr) (p : Pos) (h : PySem.behindInMarks o pb = false),isTrue (.Compare pa [o] [pb] p) env (eval (.Compare pa [o] [pb] p) env) = eval (.Compare pa [o] [pb] p) env >>= fun c=>holding [c] (truthy c):=by
   intro o pa pb p h
   rw [isTrue_Compare1,eval_Compare1]
   simp only [bind_assoc]
  rw [e0 _ _ _ _ hm]
  exact Sim.bind (E0 x.down he') fun v c H₁ φ₁ s₁ q1 x1 r1 v1=>Sim.holding (p_truth v1 r1)
 | oth=>exact Sim.of_stuck (by induction n <;> rfl)
 | _=>first | ((refine ex3_2 he.inv fun _ _ _ z6q _=>?_; subst z6q); exact s_isTrue_value E0 x.down he' rfl) | ((refine ex2_2 he.inv fun _ _ z7q _=>?_; subst z7q); exact s_isTrue_value E0 x.down he' rfl) | ((refine ex4_2 he.inv fun _ _ _ _ z8q _=>?_; subst z8q); exact s_isTrue_value E0 x.down he' rfl) | (obtain ⟨_,rfl⟩:=he.inv; exact s_isTrue_value E0 x.down he' rfl) | ((refine ex5_2 he.inv fun _ _ _ _ _ z9q _=>?_; subst z9q); exact s_isTrue_value E0 x.down he' rfl) | ((refine ex6_2 he.inv fun _ _ _ _ _ _ z10q _=>?_; subst z10q); exact s_isTrue_value E0 x.down he' rfl) | ((refine ex7_2 he.inv fun _ _ _ _ _ _ _ z11q _=>?_; subst z11q); exact s_isTrue_value E0 x.down he' rfl)
end
end
section
variable {C : Cx} {A : Around} {fl : Option Addr} {φ : Nat→Addr} {H : List O} {s : Shared} {l : List Env} {d : Nat}
variable {n : Nat} {cdv : Value} {sc : Scope} {cs : List Nat} {ρ : Lo} {env : Env}
structure Good3 (C : Cx) : Prop where
 g : C.base.Ns mainGlobals C.mg
 b : C.base.Ns builtinsNs C.mb
theorem p_loc {x : Nat} {nm : Str} {p : Pos} (X : St C A l n φ H s cdv sc cs ρ env) (h1 : (localNames sc)[x]? = some nm) (h2 : (nm == ("__debug__" : Str)) = false) : Sim C A fl (VH C) (getL ρ x) (eval (.Name nm p) env) φ H s:=by
 unfold getL
 split
 ·rename_i v e
  refine ex1_2 X.en.ns fun m hn hr=>?_
  refine ex1_2 (hr.2 x nm v h1 e) fun cv c1 c2=>?_
  exact Sim.val rfl c2 X.r fun Q E q=>wpAny_Name (wpAny_loadName_local X.en.kind (X.en.loc x nm h1) hn c1 q) h2
 ·exact Sim.stuck
theorem cell_at {m : Nat} {v : Option V} (r : Rel C φ H s.heap) (e : H[m]? = some (.cell v)) : ∃ cv,s.heap.IsCell (φ m) cv∧OptR (VR C φ H.length) v cv:=by
 refine ex1_2 (r.obj m _ e) fun ob h1 h2=>?_
 refine ex4_2 h2.inv fun cv cl dd sl z x=>?_
 subst z
 exact in1_2 _ ⟨_,h1,rfl⟩ x
theorem p_cel {x : Nat} {nm : Str} {p : Pos} (X : St C A l n φ H s cdv sc cs ρ env) (h1 : (celNames sc)[x]? = some nm) (h2 : (nm == ("__debug__" : Str)) = false) (h3 : (nm == ("__classdict__" : Str)) = false) : Sim C A fl (VH C) (getC cs x) (eval (.Name nm p) env) φ H s:=by
 obtain ⟨k,m,e,hm,hl⟩:=X.en.cel x nm h1
 unfold getC
 rw [e]
 refine Sim.getO fun o e1=>?_
 induction o <;> try exact Sim.stuck
 rename_i v
 induction v using Option.casesOn with
 | none=>exact Sim.stuck
 | some v=>
  refine ex1_2 (cell_at X.r e1) fun cv c1 c2=>?_
  induction cv using Option.casesOn with
  | none=>exact c2.elim
  | some cv=>
   refine Sim.val rfl c2 X.r fun Q E q=>wpAny_Name ?_ h2
   rcases k with k | k
   ·exact wpAny_loadName_cell X.en.kind k hl c1 q
   ·exact wpAny_loadName_free X.en.kind k hl c1 q h3
theorem p_glo {v : V} {cv : Value} {nm : Str} {p : Pos} (G3 : Good3 C) (X : St C A l n φ H s cdv sc cs ρ env) (h1 : (nm,PySem.NameKind.globalImplicit) ∈ sc.names) (h2 : (nm == ("__debug__" : Str)) = false) (h3 : C.mg nm = some cv ∨ (C.mg nm = none∧C.mb nm = some cv)) (h4 : ∀ φ N,VR C φ N v cv) :
  Sim C A fl (VH C) (Pure.pure v) (eval (.Name nm p) env) φ H s:=by
 have hg : s.heap.Ns env.globals C.mg:=by rw [X.en.glo]; exact G3.g.keeps fun b o e=>X.r.base b o e
 have hb : s.heap.Ns env.builtins C.mb:=by rw [X.en.bui]; exact G3.b.keeps fun b o e=>X.r.base b o e
 refine Sim.val rfl (h4 _ _) X.r fun Q E q=>Name_function_global X.en.kind (X.en.gim nm h1) ?_ h2
 rcases h3 with h3 | ⟨h3,h5⟩
 ·exact loadGlobal_global hg h3 q
 ·exact loadGlobal_builtin hg h3 hb h5 q
theorem p_newList {xs : List V} {vs : List Value} (r : Rel C φ H s.heap) (a : All2 (VR C φ H.length) xs vs) (hz : vs.length ≤ 100000) : Sim C A fl (VH C) (do return .ref (← new (.list xs))) (PySem.newList vs) φ H s:=
 Sim.push rfl r rfl (fun φ' N' hp hN=>.list (a.mono fun _ _ z=>z.mono hp hN) hz) fun Q E k=>wpAny_newObj_type (k s.toks) (by show vs.toArray.size ≤ sizeLine; have:=line_is; simp; lia)
theorem p_newTup {xs : List V} {vs : List Value} (r : Rel C φ H s.heap) (a : All2 (VR C φ H.length) xs vs) (hz : vs.length ≤ 100000) : Sim C A fl (VH C) (do return .ref (← new (.tup xs))) (PySem.newTuple vs) φ H s:=
 Sim.push rfl r rfl (fun φ' N' hp hN=>.tup (a.mono fun _ _ z=>z.mono hp hN) hz) fun Q E k=>wpAny_newObj_type (k s.toks) (by show vs.toArray.size ≤ sizeLine; have:=line_is; simp; lia)
theorem p_dic (r : Rel C φ H s.heap) : Sim C A fl (VH C) (do return .ref (← new (.attrs []))) (PySem.dictDisplay []) φ H s:=
 Sim.push rfl r rfl (fun φ' N' hp hN=>.attrs (es:=[]) (ep:=0) .nil (by simp)) fun Q E k=>by
  unfold PySem.dictDisplay
  simp only [List.forIn_nil,List.isEmpty_nil,if_true,pure_bind]
  exact wpAny_bind (wpAny_alloc (wpAny_pure (k s.toks)))
noncomputable def SeqV (H : List O) : V→Prop
 | .bytes _=>True
 | .ref n=>∃ xs,H[n]? = some (.list xs) ∨ H[n]? = some (.tup xs) ∨ H[n]? = some (.frz xs)
 | _=>False
theorem looks_seq {o : V} {co : Value} {M : PySem.Model} (vo : VR C φ H.length o co) (r : Rel C φ H s.heap) (h : SeqV H o) : Looks M s.heap (PySem.getitemInPython co) false:=by
 have key : ∀ T id,(∀ s' : Shared,(∀ b o,s.heap.get? b = some o→s'.heap.get? b = some o)→s'.TypeIs co T)→typeLookup (.type T) "__getitem__" = pure (some (.builtin id))→Looks M s.heap (PySem.getitemInPython co) false:=by
  intro T id hT hl A Q E s' k q
  rw [getitemInPython_of_ne (hT s' k).not_modules]
  exact wpAny_bind (wpAny_specialOf (hT s' k) hl (wpAny_pure q))
 induction vo <;> try exact h.elim
 case bytes b t hb=>exact key "bytes" _ (fun s' _=>typeIs_bytes _ _ _) FB.slot_bytes_getitem.lookup
 case ref m hm=>
  obtain ⟨xs,h | h | h⟩:=h
  ·refine ex2_2 (isList r h) fun vs ep a1 _=>?_
   exact key "list" _ (fun s' k=>⟨_,k _ _ a1,rfl⟩) list_getitem_lookup
  ·refine ex1_2 (r.obj m _ h) fun ob h1 h2=>?_
   refine ex3_3 h2.inv fun vs ep sl z _ _=>?_
   subst z
   exact key "tuple" _ (fun s' k=>⟨_,k _ _ h1,rfl⟩) PySem.F.slot_tuple_getitem.lookup
  ·refine ex2_3 (isFrz r h) fun vs ob a1 ac _=>?_
   exact key "list" _ (fun s' k=>⟨_,k _ _ a1,ac⟩) list_getitem_lookup
theorem seqV_getI {o i : V} (h : getI o i H ≠ .stuck) : SeqV H o:=by
 unfold getI at h
 split at h
 ·rename_i m i
  induction e : H[m]? using Option.casesOn with
  | none=>exact absurd (bind_stuck (by unfold getO; rw [e])) h
  | some ob=>
   rw [bind_at (getO_eq e)] at h
   induction ob <;> try exact absurd rfl h
   ·exact ⟨_,.inl e⟩
   ·exact ⟨_,.inr (.inl e)⟩
 ·trivial
 ·exact absurd rfl h
theorem seqV_slice {o : V} {lo hi : Option V} (h : slice o lo hi H ≠ .stuck) : SeqV H o:=by
 unfold slice at h
 induction e1 : bnd lo using Option.casesOn with
 | none=>rw [e1] at h; exact absurd rfl h
 | some a=>
  induction e2 : bnd hi using Option.casesOn with
  | none=>rw [e1,e2] at h; exact absurd rfl h
  | some b=>
   rw [e1,e2] at h
   induction o <;> try exact absurd rfl h
   ·trivial
   ·rename_i m
    have h : (getO m >>= fun o=>match o with | .list xs=>(do return .ref (← new (.list (cut xs a b))) : M V) | .frz xs=>(do return .ref (← new (.list (cut xs a b))) : M V) | _=>Mp.stuck) H ≠ .stuck:=h
    induction e : H[m]? using Option.casesOn with
    | none=>exact absurd (bind_stuck (by unfold getO; rw [e])) h
    | some ob=>
     rw [bind_at (getO_eq e)] at h
     induction ob <;> try exact absurd rfl h
     ·exact ⟨_,.inl e⟩
     ·exact ⟨_,.inr (.inr e)⟩
theorem subscripted_plain {e : Expr} {o i : Value} (h : notSlice e = true) : PySem.subscripted e false o i = PySem.operate [o,i] (getItem o i):=by
 induction e using Expr.casesOn <;> first | rfl | cases h
theorem let_go {α : Type} {R : (Nat→Addr)→Nat→Heap→α→Value→Prop} {a : α} {base : Expr} {o v : Value} (r : Rel C φ H s.heap) (h : R φ H.length s.heap a v) : Sim C A fl R (Pure.pure a) (PySem.letTemporaryGo base o v >>= fun _=>pure v) φ H s:=fun hne=>
 wpAny_bind (wpAny_letTemporaryGo (wpAny_pure ⟨a,H,φ,rfl,.refl ..,r,h⟩))
theorem p_sub {o i : E} {po pi : Expr} {p : Pos} (E0 : SndE C n) (X : St C A l n φ H s cdv sc cs ρ env) (ho : TrE C cdv sc o po) (hi : TrE C cdv sc i pi) (hs : notSlice pi = true) :
  Sim C A env.frame (VH C) ((ev n).e cs ρ o >>= fun x=>(ev n).e cs ρ i >>= fun y=>getI x y) (eval (.Subscript po pi p) env) φ H s:=by
 rw [eval_Subscript]
 refine Sim.bind (E0 X ho) fun x cx H₁ φ₁ s₁ q1 x1 r1 v1=>Sim.bind (Sim.holding (E0 (X.ext x1 r1) hi)) fun y cy H₂ φ₂ s₂ q2 x2 r2 v2=>Sim.standAt ?_
 intro hne
 have v1':=v1.mono x2.phi x2.len
 refine Sim.look (looks_seq v1' r2 (seqV_getI hne)) ?_ hne
 rw [subscripted_plain hs]
 refine Sim.tail (Sim.operate (p_getI v1' v2 r2)) fun a c H₃ φ₃ s₃ q3 x3 r3 v3=>let_go r3 v3
theorem snd_part {lo : Option E} {plo : Option Expr} (E0 : SndE C n) (X : St C A l (n + 1) φ H s cdv sc cs ρ env) (h : TrO C cdv sc lo plo) : Sim C A env.frame (fun φ N _ a c=>PartR C φ N a c) ((ev (n + 1)).o cs ρ lo) (PySem.valueOrNone (evalOpt plo env)) φ H s:=by
 induction h using OptO.casesOn with
 | none=>exact Sim.pure X.r rfl
 | some h=>
  rename_i a b
  refine (?_ : Sim C A env.frame _ ((ev n).e cs ρ a >>= fun v=>Pure.pure (some v)) (eval b env) φ H s)
  have e : eval b env = eval b env >>= fun c=>pure c:=(bind_pure _).symm
  rw [e]
  exact Sim.bind (E0 X.down h) fun v c H₁ φ₁ s₁ q1 x1 r1 v1=>Sim.pure r1 v1
theorem PartR.mono {φ' : Nat→Addr} {N N' : Nat} {v : Option V} {c : Value} (h : PartR C φ N v c) (hp : ∀ n,n < N→φ' n = φ n) (hN : N ≤ N') : PartR C φ' N' v c:=by
 induction v using Option.casesOn with
 | none=>exact h
 | some v=>exact VR.mono h hp hN
noncomputable def SndO (C : Cx) (n : Nat) : Prop:=∀ {A : Around} {l : List Env} {φ : Nat→Addr} {H : List O} {s : Shared} {cdv : Value} {sc : Scope} {cs : List Nat} {ρ : Lo} {env : Env} {e : Option E} {pe : Option Expr},
 St C A l n φ H s cdv sc cs ρ env→TrO C cdv sc e pe→Sim C A env.frame (fun φ N _ a c=>PartR C φ N a c) ((ev n).o cs ρ e) (PySem.valueOrNone (evalOpt pe env)) φ H s
theorem snd_o (E0 : SndE C n) : SndO C (n + 1):=fun X h=>snd_part E0 X h
theorem sim_slice {lo hi : Option E} {plo phi : Option Expr} {p2 : Pos} (O0 : SndO C n) (X : St C A l n φ H s cdv sc cs ρ env) (hl : TrO C cdv sc lo plo) (hh : TrO C cdv sc hi phi) :
  Sim C A env.frame (fun φ N h (a : Option V × Option V) c=>∃ sl cl cu,c = .ref sl∧h.IsSliceOf sl cl cu .none∧PartR C φ N a.1 cl∧PartR C φ N a.2 cu) ((ev n).o cs ρ lo >>= fun a=>(ev n).o cs ρ hi >>= fun b=>Pure.pure (a,b)) (eval (.Slice plo phi none p2) env) φ H s:=by
 rw [arm_eval_Slice]
 refine Sim.bind (O0 X hl) fun a ca H₁ φ₁ s₁ q1 x1 r1 v1=>Sim.bind (Sim.holding (O0 (X.ext x1 r1) hh)) fun b cb H₂ φ₂ s₂ q2 x2 r2 v2=>?_
 intro _
 refine wpAny_bind (wpAny_holding (show wpAny _ _ (pure Value.none) _ _ _ from wpAny_pure ?_))
 have g : ∀ b' o',s₂.heap.get? b' = some o'→(s₂.heap.push { cls:=.type "slice",data:=.fields #[ca,cb,Value.none] }).get? b' = some o':=fun b' o' e=>Heap.get?_push_of_some _ e
 exact wpAny_newObj_type ⟨_,_,_,rfl,grow_ext (tk:=s₂.toks) g,r2.grow g,_,ca,cb,rfl,Heap.IsSliceOf.new ..,v1.mono x2.phi x2.len,v2⟩
theorem m_slc (ih : Ev) (o : E) (lo hi : Option E) (x : V) (H : List O) : (ih.o cs ρ lo >>= fun a=>ih.o cs ρ hi >>= fun b=>slice x a b) H = ((ih.o cs ρ lo >>= fun a=>ih.o cs ρ hi >>= fun b=>Pure.pure (a,b)) >>= fun p=>slice x p.1 p.2) H:=by
 induction e1 : ih.o cs ρ lo H with
 | stuck=>rw [bind_stuck e1,bind_stuck (bind_stuck e1)]
 | err k H'=>rw [bind_err e1,bind_err (bind_err e1)]
 | ok a H'=>
  rw [bind_at e1]
  induction e2 : ih.o cs ρ hi H' with
  | stuck=>rw [bind_stuck e2,bind_stuck (by rw [bind_at e1,bind_stuck e2])]
  | err k H''=>rw [bind_err e2,bind_err (by rw [bind_at e1,bind_err e2])]
  | ok b H''=>
   have : (ih.o cs ρ lo >>= fun a=>ih.o cs ρ hi >>= fun b=>(Pure.pure (a,b) : M (Option V × Option V))) H = .ok (a,b) H'':=by rw [bind_at e1,bind_at e2]; rfl
   rw [bind_at e2,bind_at this]
theorem p_slc {o : E} {lo hi : Option E} {po : Expr} {plo phi : Option Expr} {p p2 : Pos} (E0 : SndE C n) (O0 : SndO C n) (X : St C A l n φ H s cdv sc cs ρ env) (ho : TrE C cdv sc o po) (hl : TrO C cdv sc lo plo) (hh : TrO C cdv sc hi phi) :
  Sim C A env.frame (VH C) ((ev n).e cs ρ o >>= fun x=>(ev n).o cs ρ lo >>= fun a=>(ev n).o cs ρ hi >>= fun b=>slice x a b) (eval (.Subscript po (.Slice plo phi none p2) p) env) φ H s:=by
 rw [eval_Subscript]
 refine Sim.bind (E0 X ho) fun x cx H₁ φ₁ s₁ q1 x1 r1 v1=>Sim.eq ?_ (m_slc (ev n) o lo hi x H₁)
 refine Sim.bind (Sim.holding (sim_slice O0 (X.ext x1 r1) hl hh)) fun y cy H₂ φ₂ s₂ q2 x2 r2 v2=>Sim.standAt ?_
 (refine ex3_4 v2 fun sl cl cu z1q hs pl pu=>?_; clear v2; subst z1q)
 intro hne
 have v1':=v1.mono x2.phi x2.len
 refine Sim.look (looks_seq v1' r2 (seqV_slice hne)) ?_ hne
 refine (?_ : Sim C A env.frame (VH C) (slice x y.1 y.2) (PySem.operate [.ref sl,cx] (getItem cx (.ref sl)) >>= _) φ₂ H₂ s₂)
 exact Sim.tail (Sim.operate (p_slice v1' pl pu hs r2)) fun a c H₃ φ₃ s₃ q3 x3 r3 v3=>let_go r3 v3
theorem p_attr {o : E} {m : Nat} {po : Expr} {p : Pos} (G : Good C) (XG : ExcGet C) (E0 : SndE C n) (X : St C A l n φ H s cdv sc cs ρ env) (ho : TrE C cdv sc o po) (hn : notCall po = true) :
  Sim C A env.frame (VH C) ((ev n).e cs ρ o >>= fun x=>getA methT x m) (eval (.Attribute po (C.an m) p) env) φ H s:=by
 have e : eval (.Attribute po (C.an m) p) env = eval po env >>= fun o=>standAt p.atName >>= fun _=>(holding [o] (getAttr o (C.an m) true)) >>= fun r=>PySem.letTemporaryGo po o r >>= fun _=>pure r:=by
  induction po using Expr.casesOn <;> first | rfl | cases hn
 rw [e]
 refine Sim.bind (E0 X ho) fun x cx H₁ φ₁ s₁ q1 x1 r1 v1=>Sim.standAt ?_
 exact Sim.tail (Sim.holding (p_getA G XG v1 r1 true)) fun a c H₃ φ₃ s₃ q3 x3 r3 v3=>let_go r3 v3
theorem TrEs.length {es : List E} {pes : List Expr} (h : TrEs C cdv sc es pes) : es.length = pes.length:=All2.length h
theorem es_len : ∀ {n : Nat} {cs : List Nat} {ρ : Lo} {es : List E} {vs : List V} {H H' : List O},(ev n).es cs ρ es H = .ok vs H'→vs.length = es.length
 | 0,_,_,_,_,_,_,h=>by injection h
 | n + 1,cs,ρ,[],vs,H,H',h=>by cases h; rfl
 | n + 1,cs,ρ,e :: es,vs,H,H',h=>by
  have h : ((ev n).e cs ρ e >>= fun v=>(ev n).es cs ρ es >>= fun vs=>(Pure.pure (v :: vs) : M (List V))) H = .ok vs H':=h
  induction e1 : (ev n).e cs ρ e H with
  | stuck=>rw [bind_stuck e1] at h; injection h
  | err k H₁=>rw [bind_err e1] at h; injection h
  | ok v H₁=>
   rw [bind_at e1] at h
   induction e2 : (ev n).es cs ρ es H₁ with
   | stuck=>rw [bind_stuck e2] at h; injection h
   | err k H₂=>rw [bind_err e2] at h; injection h
   | ok ws H₂=>
    rw [bind_at e2] at h
    cases h
    exact congrArg (· + 1) (es_len e2)
noncomputable def SndX (C : Cx) (n : Nat) (P : E→Prop) : Prop:=∀ {A : Around} {l : List Env} {φ : Nat→Addr} {H : List O} {s : Shared} {cdv : Value} {sc : Scope} {cs : List Nat} {ρ : Lo} {env : Env} {e : E} {pe : Expr},
 P e→St C A l n φ H s cdv sc cs ρ env→TrE C cdv sc e pe→Sim C A env.frame (VH C) ((ev n).e cs ρ e) (eval pe env) φ H s
noncomputable def isCallE (e : E) : Prop:=∃ f as,e = .call f as
noncomputable def isMethE (e : E) : Prop:=∃ o m as,e = .meth o m as
noncomputable def isLamE (e : E) : Prop:=∃ k c,e = .lam k c
noncomputable def isCompE (e : E) : Prop:=∃ a b c d f g,e = .comp a b c d f g
theorem snd_e (G : Good C) (G3 : Good3 C) (XG : ExcGet C) (E0 : SndE C n) (T0 : SndT C n) (Es : SndEs C n) (O0 : SndO C n) (An : SndAnd C n) (S1 : SndX C (n + 1) isCallE) (S2 : SndX C (n + 1) isMethE) (S3 : SndX C (n + 1) isLamE) (S4 : SndX C (n + 1) isCompE) : SndE C (n + 1):=by
 intro A l φ H s cdv sc cs ρ env e pe X he
 have he':=he
 induction e using Mp.E.casesOn with
 | oth=>exact Sim.stuck
 | cst v=>
  (refine ex3_2 he.inv fun c k p z2q hc=>?_; subst z2q)
  induction hc with
  | none=>exact Sim.val rfl .none X.r fun Q E q=>wpAny_Constant_none q
  | bool=>exact Sim.val rfl (.bool _) X.r fun Q E q=>wpAny_Constant_bool q
  | int=>exact Sim.ret rfl X.r fun Q E q=>wpAny_Constant_int (q _ _ (.int _ _))
  | str=>exact Sim.ret rfl X.r fun Q E q=>wpAny_Constant_str (q _ _ (.str _ _))
  | @bytes bs hb=>
   refine Sim.ret rfl X.r fun Q E q=>?_
   exact fun _ _ _=>q (.bytes bs.toArray s.toks) (s.toks + 1) (bytesR _ _ _ (by have:=line_is; simp; lia) (by simp))
 | loc x=>
  (refine ex2_3 he.inv fun nm p z3q h1 h2=>?_; subst z3q)
  exact p_loc X h1 h2
 | cel x=>
  (refine ex2_4 he.inv fun nm p z4q h1 h2 h3=>?_; subst z4q)
  exact p_cel X h1 h2 h3
 | glo v=>
  (refine ex3_5 he.inv fun cv nm p z5q h1 h2 h3 h4=>?_; subst z5q)
  exact p_glo G3 X h1 h2 h3 h4
 | not a=>
  (refine ex2_2 he.inv fun pa p z6q ha=>?_; subst z6q)
  rw [arm_eval_UnaryOp]
  refine Sim.bind (E0 X.down ha) fun x cx H₁ φ₁ s₁ q1 x1 r1 v1=>Sim.standAt (Sim.holding ?_)
  refine (?_ : Sim C A env.frame (VH C) _ (holding [cx] (truthy cx >>= fun b=>pure (.bool (!b)))) φ₁ H₁ s₁)
  refine Sim.holding ?_
  refine Sim.bind (p_truth v1 r1) fun b c' H₂ φ₂ s₂ q2 x2 r2 v2=>?_
  subst v2
  exact Sim.pure r2 (.bool _)
 | neg a=>
  (refine ex2_2 he.inv fun pa p z7q ha=>?_; subst z7q)
  rw [arm_eval_UnaryOp]
  refine Sim.bind (E0 X.down ha) fun x cx H₁ φ₁ s₁ q1 x1 r1 v1=>Sim.standAt (Sim.holding ?_)
  induction v1 <;> try exact Sim.stuck
  rename_i i t
  exact p_neg (a:=.int i) (.int i t) r1
 | and as=>
  (refine ex2_2 he.inv fun pas p z8q h=>?_; subst z8q)
  exact (An X.down h).1
 | or as=>
  (refine ex2_2 he.inv fun pas p z9q h=>?_; subst z9q)
  exact (An X.down h).2.1
 | ite c a b=>
  (refine ex4_4 he.inv fun pc pa pb p z10q hc ha hb=>?_; subst z10q)
  rw [arm_eval_IfExp]
  refine Sim.bind (T0 X.down hc) fun b c H₁ φ₁ s₁ q1 x1 r1 v1=>?_
  subst v1
  induction b
  ·exact E0 (X.down.ext x1 r1) hb
  ·exact E0 (X.down.ext x1 r1) ha
 | bin o a b=>
  (refine ex3_3 he.inv fun pa pb p z11q ha hb=>?_; subst z11q)
  rw [eval_BinOp]
  refine Sim.bind (E0 X.down ha) fun x cx H₁ φ₁ s₁ q1 x1 r1 v1=>Sim.bind (Sim.holding (E0 (X.down.ext x1 r1) hb)) fun y cy H₂ φ₂ s₂ q2 x2 r2 v2=>Sim.standAt ?_
  exact Sim.operate (p_bin (v1.mono x2.phi x2.len) v2 r2)
 | cmp o a b=>
  (refine ex3_4 he.inv fun pa pb p z12q ha hb hm=>?_; subst z12q)
  rw [eval_Compare1,markedBehindIn_of_false hm]
  refine Sim.bind (E0 X.down ha) fun x cx H₁ φ₁ s₁ q1 x1 r1 v1=>Sim.bind (Sim.holding (E0 (X.down.ext x1 r1) hb)) fun y cy H₂ φ₂ s₂ q2 x2 r2 v2=>Sim.standAt ?_
  exact Sim.operate (p_cmp X.rd (v1.mono x2.phi x2.len) v2 r2)
 | call f as=>exact S1 ⟨_,_,rfl⟩ X he'
 | meth o m as=>exact S2 ⟨_,_,_,rfl⟩ X he'
 | attr o m=>
  (refine ex2_3 he.inv fun po p z13q ho hn=>?_; subst z13q)
  exact p_attr G XG E0 X.down ho hn
 | lst as=>
  (refine ex2_4 he.inv fun pas p z14q h ns hz=>?_; subst z14q)
  rw [arm_eval_List]
  exact Sim.standAt (Sim.bind (Es X.down h ns) fun vs cvs H₁ φ₁ s₁ q1 x1 r1 v1=>p_newList r1 v1 (by rw [← v1.length,es_len q1,h.length]; lia))
 | tup as=>
  (refine ex3_4 he.inv fun pas k p z15q h ns hz=>?_; subst z15q)
  rw [arm_eval_Tuple]
  exact Sim.standAt (Sim.bind (Es X.down h ns) fun vs cvs H₁ φ₁ s₁ q1 x1 r1 v1=>p_newTup r1 v1 (by rw [← v1.length,es_len q1,h.length]; lia))
 | dic=>
  obtain ⟨p,rfl⟩:=he.inv
  refine (?_ : Sim C A env.frame _ _ (standAt _ >>= fun _=>PySem.dictDisplay []) φ H s)
  exact Sim.standAt (p_dic X.r)
 | sub o i=>
  (refine ex3_4 he.inv fun po pi p z16q ho hi hs=>?_; subst z16q)
  exact p_sub E0 X.down ho hi hs
 | slc o lo hi=>
  (refine ex5_4 he.inv fun po plo phi p2 p z17q ho hl hh=>?_; subst z17q)
  exact p_slc E0 O0 X.down ho hl hh
 | lam k c=>exact S3 ⟨_,_,rfl⟩ X he'
 | comp a b c d f g=>exact S4 ⟨_,_,_,_,_,_,rfl⟩ X he'
end
section
variable {C : Cx} {A : Around} {fl : Option Addr} {φ : Nat→Addr} {H : List O} {s : Shared} {l : List Env} {d : Nat}
variable {n : Nat} {cdv : Value} {sc : Scope} {cs : List Nat} {ρ : Lo} {env : Env}
noncomputable def KeptBy (C : Cx) (h : Heap) (cf : Value) : Prop:=∃ k,(k = PySem.Keeper.frame ∨ k = PySem.Keeper.machine ∨ k = PySem.Keeper.boundFrame)∧Looks (model C.prog C.w) h (PySem.keeperOf cf) k
theorem kept_func {a : Addr} {o : Obj} {fd : FuncData} {h : Heap} (e : h.get? a = some o) (hd : o.data = .func fd) : KeptBy C h (.ref a):=by
 refine in1_2 .frame (.inl rfl) (fun A Q E s k q=>?_)
 unfold PySem.keeperOf
 refine wpAny_bind (wpAny_load (k _ _ e) ?_)
 rw [hd]
 exact wpAny_pure q
theorem kept_base {k : Nat} (G2 : Good2 C) (hk : isB k = true) (r : Rel C φ H s.heap) : KeptBy C s.heap (.ref (C.fa k)):=by
 obtain ⟨o,fd,cd,h1,h2,h3,_⟩:=base_call G2 hk r
 exact kept_func h1 h3
theorem kept_V {ih : Ev} {f : V} {cf : Value} {vs : List V} (G : Good C) (G2 : Good2 C) (r : Rel C φ H s.heap) (vf : VR C φ H.length f cf) (hne : callV iniT excT isB isC ih f vs H ≠ .stuck) : KeptBy C s.heap cf:=by
 induction vf <;> try exact absurd rfl hne
 case ref m hm=>
  induction e : H[m]? using Option.casesOn with
  | none=>exact absurd (bind_stuck (by unfold getO; rw [e])) hne
  | some o=>
   have hne : (getO m >>= fun o=>match o with | .clo k cs=>if isC k then ih.fn k cs vs else Mp.stuck | _=>Mp.stuck) H ≠ .stuck:=hne
   rw [bind_at (getO_eq e)] at hne
   induction o <;> try exact absurd rfl hne
   refine ex1_2 (r.obj m _ e) fun ob h1 h2=>?_
   refine ex4_6 h2.inv fun fd cd dd sl z _ _ _ _ _=>?_
   subst z
   exact kept_func h1 rfl
 case fn k=>
  have hne : (if isB k then ih.fn k [] vs else Mp.stuck) H ≠ .stuck:=hne
  split at hne
  ·exact kept_base G2 (by assumption) r
  ·exact absurd rfl hne
 case cls c=>
  unfold callV at hne
  dsimp only at hne
  split at hne
  ·rename_i hk
   rw [Bool.and_eq_true] at hk
   exact keeps_K (G2.keepC c hk.1) _ (G.K_in r)
  ·exact absurd rfl hne
 case ty k=>exact in1_2 .machine (.inr (.inl rfl)) (fun A Q E s k q=>wpAny_pure q)
 case blt k=>exact in1_2 .machine (.inr (.inl rfl)) (fun A Q E s k q=>wpAny_pure q)
theorem plain_args {pos : Pos} {pas : List Expr} (ns : pas.all notStar = true) : (backTo pos (starEach pas env)).any (·.1) = false:=by
 induction pas with
 | nil=>rfl
 | cons e r ih=>
  rw [List.all_cons,Bool.and_eq_true] at ns
  rw [starEach_cons ns.1]
  refine (?_ : (false || (backTo pos (starEach r env)).any (·.1)) = false)
  rw [ih ns.2]; rfl
theorem p_callWith {cf : Value} {first : List Value} {as : List E} {pas : List Expr} {pos : Pos} {k : List V→M V} (Es : SndEs C n) (X : St C A l n φ H s cdv sc cs ρ env) (h : TrEs C cdv sc as pas) (ns : pas.all notStar = true)
  (hk : ∀ vs cvs H₁ φ₁ s₁,vs.length = as.length→Ext C φ H s φ₁ H₁ s₁→Rel C φ₁ H₁ s₁.heap→All2 (VR C φ₁ H₁.length) vs cvs→k vs H₁ ≠ .stuck→KeptBy C s₁.heap cf∧Sim C A env.frame (VH C) (k vs) (call cf (first ++ cvs)) φ₁ H₁ s₁) :
  Sim C A env.frame (VH C) ((ev n).es cs ρ as >>= k) (PySem.callWith pos cf first (backTo pos (starEach pas env)) []) φ H s:=by
 intro hne
 have hm : (ev n).es cs ρ as H ≠ .stuck:=fun z=>hne (bind_stuck z)
 have hsp:=Es (pos:=pos) X h ns hm
 refine callWith_of (P:=fun h=>KeptBy C h cf) (by rw [plain_args ns]; rfl) (fun h z=>z) ?_
 have main : wpAny (model C.prog C.w) A (PySem.spliced (backTo pos (starEach pas env))) (fun cvs s₁=>KeptBy C s₁.heap cf∧wpAny (model C.prog C.w) A (call cf (first ++ cvs)) (OkP C (VH C) φ H s (((ev n).es cs ρ as >>= k) H))
   (ErP C env.frame φ H s (((ev n).es cs ρ as >>= k) H)) s₁)
   (ErP C env.frame φ H s (((ev n).es cs ρ as >>= k) H)) s:=by
  refine wpAny_mono hsp ?_ ?_
  ·intro cvs s₁ zq; obtain ⟨vs,H₁,φ₁,q1,x1,r1,v1⟩:=zq
   rw [bind_at q1] at hne ⊢
   obtain ⟨k1,k2⟩:=hk vs cvs H₁ φ₁ s₁ (es_len q1) x1 r1 v1 hne
   refine ⟨k1,wpAny_mono (k2 hne) ?_ ?_⟩
   ·intro c s₂ zq; obtain ⟨a,H₂,φ₂,q2,x2,r2,v2⟩:=zq
    exact ⟨a,H₂,φ₂,q2,x1.trans x2,r2,v2⟩
   ·intro c s₂ zq; obtain ⟨a,H₂,φ₂,q2,x2,r2,v2⟩:=zq
    exact ⟨a,H₂,φ₂,q2,x1.trans x2,r2,v2.old x1.live⟩
  ·intro ce s₁ zq; obtain ⟨m,H₁,φ₁,q1,x1,r1,v1⟩:=zq
   exact ⟨m,H₁,φ₁,bind_err q1,x1,r1,v1⟩
 induction pas using List.casesOn with
 | nil=>
  cases h
  induction n with
  | zero=>exact absurd rfl hm
  | succ n=>
   have q1 : (ev (n + 1)).es cs ρ [] H = .ok [] H:=rfl
   rw [bind_at q1] at hne
   obtain ⟨k1,k2⟩:=hk [] [] H φ s rfl (.refl ..) X.r .nil hne
   refine PyProof.Rows.evalArgs_nil3 ⟨k1,wpAny_mono (k2 hne) ?_ ?_⟩
   ·intro c s₂ zq; obtain ⟨a,H₂,φ₂,q2,x2,r2,v2⟩:=zq
    exact ⟨a,H₂,φ₂,(bind_at q1).trans q2,x2,r2,v2⟩
   ·intro c s₂ zq; obtain ⟨a,H₂,φ₂,q2,x2,r2,v2⟩:=zq
    exact ⟨a,H₂,φ₂,(bind_at q1).trans q2,x2,r2,v2⟩
 | cons e r=>
  rw [List.all_cons,Bool.and_eq_true] at ns
  rw [starEach_cons ns.1] at main ⊢
  exact evalArgs_plain main
theorem snd_call (G : Good C) (G2 : Good2 C) (FN : FnOk C n (ev n)) (E0 : SndE C n) (Es : SndEs C n) : SndX C (n + 1) isCallE:=by
 intro A l φ H s cdv sc cs ρ env e pe hp X he
 (refine ex2_1 hp fun f as z1q=>?_; clear hp; subst z1q)
 (refine ex3_6 he.inv fun pf pas p z2q hf has hna ns hz=>?_; subst z2q)
 have e0 : eval (.Call pf pas [] p) env = eval pf env >>= fun g=>PySem.callWith p g [] (backTo p (starEach pas env)) []:=by
  induction pf using Expr.casesOn <;> first | rfl | cases hna
 rw [e0]
 refine (?_ : Sim C A env.frame (VH C) ((ev n).e cs ρ f >>= fun g=>(ev n).es cs ρ as >>= fun vs=>callV iniT excT isB isC (ev n) g vs) _ φ H s)
 refine Sim.bind (E0 X.down hf) fun g cg H₁ φ₁ s₁ q1 x1 r1 v1=>?_
 have X1:=X.ext x1 r1
 refine p_callWith Es X1.down has ns fun vs cvs H₂ φ₂ s₂ hl x2 r2 v2 hne=>?_
 have v1':=v1.mono x2.phi x2.len
 exact ⟨kept_V G G2 r2 v1' hne,p_callV G G2 FN r2 (X1.ext x2 r2).st X.rd v1' v2 (by have:=v2.length; have:=has.length; rw [List.nil_append]; lia)⟩
noncomputable def TgtR (C : Cx) (φ : Nat→Addr) (N : Nat) (cx : Value) (m : Nat) : Tgt→Value × List Value→Prop
 | .own k,p=>p = (.ref (C.fa k),[cx])∧isB k = true
 | .val v,p=>p.2 = []∧VR C φ N v p.1
 | .bi,p=>p.2 = [cx]∧((m = 1000∧p.1 = .builtin "list.append") ∨ (m = 1001∧p.1 = .builtin "list.pop") ∨ (m = 1002∧p.1 = .builtin "bytes.join") ∨ (m = 1003∧p.1 = .builtin "str.split") ∨ (m = 1004∧p.1 = .builtin "str.encode"))
theorem slot_bytes_join : Slot "bytes" "join" "bytes.join":=
 .of (owner:="bytes") (n:="join") (by rw [typeLookup_type,builtinLookup_eq_fast]; kernel_rfl) (by decide +kernel) (by decide +kernel) (by decide +kernel)
  (by first | exact .inl (by decide +kernel) | exact .inr (by decide +kernel)) (by rw [isSubtype_type]; kernel_rfl)
theorem type_bytes_join : typeOf (.builtin "bytes.join") = pure (.type "method_descriptor"):=by show builtinType _ = _; rw [builtinType_eq_fast]; kernel_rfl
theorem p_target {x : V} {cx : Value} {m : Nat} {pl : Sem Bool} (G : Good C) (G2 : Good2 C) (vx : VR C φ H.length x cx) (r : Rel C φ H s.heap) :
  Sim C A fl (fun φ N _ t p=>TgtR C φ N cx m t p) (target methT isB x m) (PySem.getMethod cx (mName C m) pl) φ H s:=by
 induction vx <;> try exact Sim.stuck
 case str x t=>
  refine (?_ : Sim C A fl _ (if (Nat.beq m 1003 || Nat.beq m 1004) then Pure.pure Tgt.bi else Mp.stuck) _ φ H s)
  split
  ·rename_i hm
   intro _
   rw [Bool.or_eq_true] at hm
   rcases hm with hm | hm
   ·have:=Nat.eq_of_beq_eq_true hm
    subst this
    exact getMethod_builtin (typeIs_str _ _ _) PySem.F.plainAttrs_str PySem.F.slot_str_split PySem.F.type_str_split (fun a e=>by injection e) ⟨.bi,H,φ,rfl,.refl ..,r,⟨rfl,.inr (.inr (.inr (.inl ⟨rfl,rfl⟩)))⟩⟩
   ·have:=Nat.eq_of_beq_eq_true hm
    subst this
    exact getMethod_builtin (typeIs_str _ _ _) PySem.F.plainAttrs_str PySem.F.slot_str_encode PySem.F.type_str_encode (fun a e=>by injection e) ⟨.bi,H,φ,rfl,.refl ..,r,⟨rfl,.inr (.inr (.inr (.inr ⟨rfl,rfl⟩)))⟩⟩
  ·exact Sim.of_stuck rfl
 case bytes b t hb=>
  refine (?_ : Sim C A fl _ (if Nat.beq m 1002 then Pure.pure Tgt.bi else Mp.stuck) _ φ H s)
  split
  ·rename_i hm
   have:=Nat.eq_of_beq_eq_true hm
   subst this
   intro _
   exact getMethod_builtin (typeIs_bytes _ _ _) FB.plainAttrs_bytes slot_bytes_join type_bytes_join (fun a e=>by injection e) ⟨.bi,H,φ,rfl,.refl ..,r,⟨rfl,.inr (.inr (.inl ⟨rfl,rfl⟩))⟩⟩
  ·exact Sim.of_stuck rfl
 case ref k hk=>
  induction e1 : H[k]? using Option.casesOn with
  | none=>exact Sim.of_stuck (bind_stuck (by unfold getO; rw [e1]))
  | some o=>
   induction o <;> try exact Sim.of_stuck ((by show (getO k >>= _) H = _; rw [bind_at (getO_eq e1)]; rfl))
   case list xs=>
    by_cases hm : (Nat.beq m 1000 || Nat.beq m 1001) = true
    ·have e2 : target methT isB (.ref k) m H = .ok .bi H:=by show (getO k >>= _) H = _; rw [bind_at (getO_eq e1)]; dsimp only; rw [if_pos hm]; rfl
     refine ex2_4 (isList r e1) fun vs ep a1 a2 a3 a4=>?_
     intro _
     rw [e2]
     rw [Bool.or_eq_true] at hm
     rcases hm with hm | hm
     ·have:=Nat.eq_of_beq_eq_true hm
      subst this
      exact getMethod_builtin ⟨_,a1,rfl⟩ PySem.F.plainAttrs_list PySem.F.slot_list_append PySem.F.type_list_append (fun a e=>by cases e; exact in1_2 _ a1 rfl) ⟨.bi,H,φ,rfl,.refl ..,r,⟨rfl,.inl ⟨rfl,rfl⟩⟩⟩
     ·have:=Nat.eq_of_beq_eq_true hm
      subst this
      exact getMethod_builtin ⟨_,a1,rfl⟩ PySem.F.plainAttrs_list PySem.F.slot_list_pop PySem.F.type_list_pop (fun a e=>by cases e; exact in1_2 _ a1 rfl) ⟨.bi,H,φ,rfl,.refl ..,r,⟨rfl,.inr (.inl ⟨rfl,rfl⟩)⟩⟩
    ·exact Sim.of_stuck ((by show (getO k >>= _) H = _; rw [bind_at (getO_eq e1)]; dsimp only; rw [if_neg hm]; rfl))
   case inst c dd=>
    by_cases hm : (Nat.blt c 6 && Nat.blt m 60 && !Nat.beq c 1) = true
    ·rw [Bool.and_eq_true,Bool.and_eq_true] at hm
     obtain ⟨⟨m1,m2⟩,m3⟩:=hm
     have hm' : (Nat.blt c 6 && Nat.blt m 60 && !Nat.beq c 1) = true:=by rw [m1,m2,m3]; rfl
     have m2' : m < 60:=Nat.le_of_ble_eq_true m2
     have m3' : Nat.beq c 1 = false:=by simpa using m3
     have en : mName C m = C.an m:=if_pos m2'
     induction e2 : H[dd]? using Option.casesOn with
     | none=>exact Sim.of_stuck ((by show (getO k >>= _) H = _; rw [bind_at (getO_eq e1)]; dsimp only; rw [if_pos hm']; exact bind_stuck (bind_stuck (by unfold getO; rw [e2]))))
     | some o=>
      induction o <;> try exact Sim.of_stuck ((by show (getO k >>= _) H = _; rw [bind_at (getO_eq e1)]; dsimp only; rw [if_pos hm']; exact bind_stuck (by show (getO dd >>= _) H = _; rw [bind_at (getO_eq e2)]; rfl)))
      rename_i fs
      have e3 : attrsOf dd H = .ok fs H:=by show (getO dd >>= _) H = _; rw [bind_at (getO_eq e2)]; rfl
      refine ex3_4 (inst_of r e1 e2) fun es ep sl I b1 b2 b3=>?_
      obtain ⟨g1,g2⟩:=G2.gm c m1 m3'
      have et : ∀ t,(match methT c m,lookA m fs with | some k,none=>if isB k then Pure.pure (.own k) else Mp.stuck | none,some v=>Pure.pure (.val v) | _,_=>Mp.stuck : M Tgt) H = t→target methT isB (.ref k) m H = t:=fun t q=>by
       refine (?_ : (getO k >>= _) H = _)
       rw [bind_at (getO_eq e1)]; dsimp only; rw [if_pos hm',bind_at e3]; exact q
      induction e4 : methT c m using Option.casesOn with
      | some f=>
       induction e5 : lookA m fs using Option.casesOn with
       | some v=>exact Sim.of_stuck ((et _ (by rw [e4,e5]; rfl)))
       | none=>
        have e6 : target methT isB (.ref k) m H = (if isB f then Pure.pure (.own f) else Mp.stuck : M Tgt) H:=et _ (by rw [e4,e5])
        refine Sim.eq ?_ e6
        split
        ·rename_i hf
         intro _
         obtain ⟨q1,q2⟩:=G.met c m f m1 e4
         rw [en]
         exact method_fn (G.K_in r) I g1 g2 q1 q2 (by show (W.lookIn (C.an m) (W.dictOf es ep)).map (·.isSome) = some false; rw [lookIn_dict,look_none G m2' b2 e5]; rfl) ⟨.own f,H,φ,rfl,.refl ..,r,⟨rfl,hf⟩⟩
        ·exact Sim.stuck
      | none=>
       induction e5 : lookA m fs using Option.casesOn with
       | none=>exact Sim.of_stuck ((et _ (by rw [e4,e5]; rfl)))
       | some v=>
        have e6 : target methT isB (.ref k) m H = .ok (.val v) H:=et _ (by rw [e4,e5]; rfl)
        have ok : okA methT c m = true:=by unfold okA; rw [m1,m2,e4]; rfl
        intro _
        rw [e6,en]
        refine method_usual (G.K_in r) I g1 g2 (G.att c m ok) rfl ?_
        refine wpAny_mono (p_getA_inst (fl:=fl) G r e1 e2 ok m3' e5 (mm:=Pure.pure v) rfl _ (by intro z; injection z)) ?_ ?_
        ·intro cv s₁ zq; obtain ⟨a,H₁,φ₁,q1,x1,r1,v1⟩:=zq
         cases q1
         exact ⟨.val v,_,φ₁,rfl,x1,r1,⟨rfl,v1⟩⟩
        ·intro ce s₁ zq; obtain ⟨a,H₁,φ₁,q1,_⟩:=zq
         injection q1
    ·exact Sim.of_stuck ((by show (getO k >>= _) H = _; rw [bind_at (getO_eq e1)]; dsimp only; rw [if_neg hm]; rfl))
end
section
variable {C : Cx} {A : Around} {fl : Option Addr} {φ : Nat→Addr} {H : List O} {s : Shared} {l : List Env} {d : Nat}
variable {n : Nat} {cdv : Value} {sc : Scope} {cs : List Nat} {ρ : Lo} {env : Env}
noncomputable def BiOk (C : Cx) : Prop:=∀ {A : Around} {fl : Option Addr} {φ : Nat→Addr} {H : List O} {s : Shared} {x : V} {cx : Value} {m : Nat} {vs : List V} {cvs : List Value} {cf : Value},VR C φ H.length x cx→Rel C φ H s.heap→All2 (VR C φ H.length) vs cvs →
 ((m = 1002∧cf = .builtin "bytes.join") ∨ (m = 1003∧cf = .builtin "str.split") ∨ (m = 1004∧cf = .builtin "str.encode"))→Sim C A fl (VH C) (bltMeth x m vs) (call cf (cx :: cvs)) φ H s
theorem methodForm {pas : List Expr} {p : Pos} {env : Env} (ns : pas.all notStar = true) (hz : pas.length ≤ 20) : PySem.methodCallForm (pas.length + 0) (backTo p (starEach pas env)) [] = true:=by
 unfold PySem.methodCallForm
 have h1 : (backTo p (starEach pas env)).all (fun x=>!x.1) = true:=by
  have:=plain_args (pos:=p) (env:=env) ns
  rw [List.all_eq_not_any_not]
  simpa using this
 rw [h1]
 simp
 lia
theorem snd_meth (G : Good C) (G2 : Good2 C) (Bi : BiOk C) (FN : FnOk C n (ev n)) (E0 : SndE C n) (Es : SndEs C n) : SndX C (n + 1) isMethE:=by
 intro A l φ H s cdv sc cs ρ env e pe hp X he
 (refine ex3_1 hp fun o m as z1q=>?_; clear hp; subst z1q)
 (refine ex4_7 he.inv fun po pas ap p z2q ho has hn ns hz hl=>?_; subst z2q)
 have e0 : eval (.Call (.Attribute po (mName C m) ap) pas [] p) env = eval po env >>= fun ov=>standAt ap.atName >>= fun _=>holding [ov] (PySem.getMethod ov (mName C m) (do return (← PySem.importBound po env).getD true)) >>= fun fx=>PySem.callWith p fx.1 fx.2 (backTo p (starEach pas env)) []:=by
  have e1 : eval (.Call (.Attribute po (mName C m) ap) pas [] p) env = eval po env >>= fun ov=>standAt ap.atName >>= fun _=>PySem.methodCall po (mName C m) ap p env ov (pas.length + 0) (backTo p (starEach pas env)) []:=by
   induction po using Expr.casesOn <;> first | rfl | cases hn
  rw [e1]
  congr 1
  funext ov
  congr 1
  funext _
  unfold PySem.methodCall
  rw [methodForm ns hz]
  congr 1
  funext fx
  have : PySem.methodCallPos true po env ap p = pure p:=by
   unfold PySem.methodCallPos
   rw [hl]; rfl
  obtain ⟨f,first⟩:=fx
  dsimp only
  rw [this,pure_bind]
 rw [e0]
 show Sim C A env.frame (VH C) ((ev n).e cs ρ o >>= fun x=>target methT isB x m >>= fun t=>(ev n).es cs ρ as >>= fun vs=>match t with
  | .own k=>(ev n).fn k [] (x :: vs)
  | .val v=>callV iniT excT isB isC (ev n) v vs
  | .bi=>bltMeth x m vs) _ φ H s
 refine Sim.bind (E0 X.down ho) fun x cx H₁ φ₁ s₁ q1 x1 r1 v1=>Sim.standAt ?_
 have X1:=X.ext x1 r1
 refine Sim.bind (Sim.holding (p_target G G2 v1 r1)) fun t fx H₂ φ₂ s₂ q2 x2 r2 v2=>?_
 have X2:=X1.ext x2 r2
 have v1':=v1.mono x2.phi x2.len
 refine p_callWith Es X2.down has ns fun vs cvs H₃ φ₃ s₃ hl x3 r3 v3 hne=>?_
 have X3:=X2.ext x3 r3
 have v1'':=v1'.mono x3.phi x3.len
 obtain ⟨cf,first⟩:=fx
 induction t with
 | own k=>
  obtain ⟨e,hk⟩:=v2
  cases e
  exact ⟨kept_base G2 hk r3,(FN X3.down.rd r3 X3.st (.inl hk) (base_call G2 hk r3) (.cons v1'' v3)).sim⟩
 | val v=>
  obtain ⟨e,vv⟩:=v2
  subst e
  have vv':=vv.mono x3.phi x3.len
  exact ⟨kept_V G G2 r3 vv' hne,p_callV G G2 FN r3 X3.st X.rd vv' v3 (by have:=v3.length; have:=has.length; rw [List.nil_append]; lia)⟩
 | bi=>
  obtain ⟨e,hb⟩:=v2
  dsimp only at e hb
  subst e
  have mach : ∀ id,KeptBy C s₃.heap (.builtin id):=fun id=>⟨.machine,.inr (.inl rfl),fun A Q E s k q=>wpAny_pure q⟩
  rcases hb with ⟨rfl,rfl⟩ | ⟨rfl,rfl⟩ | hb
  ·refine ⟨mach _,?_⟩
   refine (?_ : Sim C A env.frame (VH C) (bltMeth x 1000 vs) (call (.builtin "list.append") (cx :: cvs)) φ₃ H₃ s₃)
   induction v1'' <;> try exact Sim.stuck
   rename_i k hk
   induction v3 with
   | nil=>exact Sim.stuck
   | cons a t=>
    induction t with
    | nil=>exact p_append hk a r3
    | cons=>exact Sim.stuck
  ·refine ⟨mach _,?_⟩
   refine (?_ : Sim C A env.frame (VH C) (bltMeth x 1001 vs) (call (.builtin "list.pop") (cx :: cvs)) φ₃ H₃ s₃)
   induction v1'' <;> try exact Sim.stuck
   rename_i k hk
   induction v3 with
   | nil=>exact p_pop hk r3
   | cons=>exact Sim.stuck
  ·exact ⟨by rcases hb with ⟨_,e⟩ | ⟨_,e⟩ | ⟨_,e⟩ <;> rw [e] <;> exact mach _,Bi v1'' r3 v3 hb⟩
end
section
variable {C : Cx} {A : Around} {fl : Option Addr} {φ : Nat→Addr} {H : List O} {s : Shared} {l : List Env} {d : Nat}
variable {n : Nat} {cdv : Value} {sc : Scope} {cs : List Nat} {ρ : Lo} {env : Env}
noncomputable def closL (f : Str→Addr) : List (Str × PySem.NameKind)→List (Str × Addr)→List (Str × Addr)
 | [],acc=>acc
 | (n,k) :: r,acc=>if k == .free then closL f r ((n,f n) :: acc) else closL f r acc
theorem closureFor_eq {scope : Scope} {f : Str→Addr} (h : ∀ x,(x,PySem.NameKind.free) ∈ scope.names→env.cells.lookup x = some (f x)) : PySem.closureFor scope env = pure (closL f scope.names []):=by
 unfold PySem.closureFor
 have key : ∀ (names : List (Str × PySem.NameKind)) (acc : List (Str × Addr)),(∀ x,(x,PySem.NameKind.free) ∈ names→env.cells.lookup x = some (f x)) →
   (forIn names acc fun x r=>match x with
    | (name,kind)=>if (kind == PySem.NameKind.free) = true then (do let y ← PySem.cellOf env name; pure (ForInStep.yield ((name,y) :: r)) : Sem (ForInStep (List (Str × Addr)))) else pure (ForInStep.yield r)) = pure (closL f names acc):=by
  intro names
  induction names with
  | nil=>intro acc _; rw [List.forIn_nil]; rfl
  | cons p r ih=>
   intro acc h
   obtain ⟨nm,k⟩:=p
   rw [List.forIn_cons]
   unfold closL
   by_cases hk : (k == PySem.NameKind.free) = true
   ·rw [if_pos hk]
    have : k = .free:=eq_of_beq hk
    subst this
    have e : PySem.cellOf env nm = pure (f nm):=by unfold PySem.cellOf; rw [h nm (.head _)]
    simp only [hk,if_true,e,pure_bind]
    exact ih _ fun x hx=>h x (.tail _ hx)
   ·rw [if_neg hk]
    simp only [hk,Bool.false_eq_true,if_false,pure_bind]
    exact ih _ fun x hx=>h x (.tail _ hx)
 exact (congrArg (· >>= fun (s : List (Str × Addr))=>(pure s : Sem (List (Str × Addr)))) (key scope.names [] h)).trans (pure_bind _ _)
theorem closL_lookup {f : Str→Addr} {x : Str} : ∀ (names : List (Str × PySem.NameKind)) (acc : List (Str × Addr)),(acc.lookup x = some (f x) ∨ (x,PySem.NameKind.free) ∈ names)→(∀ y c,(y,c) ∈ acc→c = f y)→(closL f names acc).lookup x = some (f x)
 | [],acc,h,_=>by
  rcases h with h | h
  ·exact h
  ·cases h
 | (nm,k) :: r,acc,h,hq=>by
  unfold closL
  split
  ·rename_i hk
   refine closL_lookup r _ ?_ fun y c hy=>?_
   ·by_cases e : x = nm
    ·subst e; left; simp [List.lookup_cons]
    ·rcases h with h | h
     ·left
      rw [List.lookup_cons]
      have : (x == nm) = false:=beq_eq_false_iff_ne.mpr e
      rw [this]; exact h
     ·rcases List.mem_cons.mp h with h | h
      ·cases h; exact absurd rfl e
      ·exact .inr h
   ·rcases List.mem_cons.mp hy with e | hy
    ·cases e; rfl
    ·exact hq y c hy
  ·rename_i hk
   refine closL_lookup r _ ?_ hq
   rcases h with h | h
   ·exact .inl h
   ·rcases List.mem_cons.mp h with h | h
    ·cases h; exact absurd rfl hk
    ·exact .inr h
theorem caps_get : ∀ {c l : List Nat},caps cs c = some l→∀ (i j : Nat),c[i]? = some j→∃ n : Nat,cs[j]? = some n∧l[i]? = some n
 | [],_,h,i,j,e=>by injection e
 | x :: r,l,h,i,j,e=>by
  unfold caps at h
  split at h
  ·rename_i m l' h1 h2
   cases h
   induction i using Nat.casesOn with
   | zero=>cases e; exact in1_2 m h1 rfl
   | succ i=>exact caps_get h2 i j e
  ·injection h
theorem triples_app {l : List Value} {a b : Nat} {c : Value} : TriplesOk l→TriplesOk (l ++ [rawInt a,rawInt b,c]):=by
 intro h
 induction l using TriplesOk.induct with
 | case1=>trivial
 | case2 _ _ _ _ x r ih=>exact ih h
 | case3 l h1 h2=>
  unfold TriplesOk at h
  split at h
  ·exact absurd rfl h1
  ·exact absurd rfl (h2 _ _ _ _ _ _)
  ·exact h.elim
theorem among_app {l : List Value} {a b : Nat} {c x : Value} {pos : Pos} : TriplesOk l→PySem.codeAmong pos (l ++ [rawInt a,rawInt b,c]) = some x→PySem.codeAmong pos l = some x ∨ x = c:=by
 intro h
 induction l using TriplesOk.induct with
 | case1=>
  intro e
  right
  unfold rawInt at e
  simp only [List.nil_append,PySem.codeAmong] at e
  split at e
  ·cases e; rfl
  ·injection e
 | case2 _ _ _ _ y r ih=>
  intro e
  simp only [List.cons_append,PySem.codeAmong] at e ⊢
  split at e
  ·rename_i hq; rw [if_pos hq]; exact .inl e
  ·rename_i hq; rw [if_neg hq]; exact ih h e
 | case3 l h1 h2=>
  unfold TriplesOk at h
  split at h
  ·exact absurd rfl h1
  ·exact absurd rfl (h2 _ _ _ _ _ _)
  ·exact h.elim
theorem Rel.tab {P c' : Addr} {ps : Array Value} {h' : Heap} {a b tk : Nat} (r : Rel C φ H s.heap) (hP : P ∈ C.tabs) (hp : s.heap.get? P = some (tabObj ps)) (x : Heap.ExtBut P s.heap h') (hn : h'.get? P = some (tabObj (ps ++ #[rawInt a,rawInt b,.ref c']))) (hf : s.heap.get? c' = none) (hcd : CodeAt h' c')
  (low : C.base.get? P = none) : Ext C φ H s φ H { s with heap:=h',toks:=tk }∧Rel C φ H h':=by
 have keep : ∀ b o,s.heap.get? b = some o→b ≠ P→h'.get? b = some o:=fun b o e hb=>x b o hb e
 have hc : ∀ cd,CodeAt s.heap cd→CodeAt h' cd:=fun cd z=>ex3_3 z fun o vs y q1 q2 q3=>by
  by_cases e : cd = P
  ·subst e
   refine in3_3 _ _ ((ps ++ #[rawInt a,rawInt b,.ref c'])[1]'(by simp)) hn rfl (Array.getElem?_eq_getElem _)
  ·exact in3_3 o vs y (keep _ _ q1 e) q2 q3
 refine ⟨⟨Nat.le_refl _,fun _ _=>rfl,fun n h1 h2=>absurd h2 (Nat.not_lt.mpr h1),fun b o e _ h2=>⟨o.slots,keep b o e (fun q=>h2 (q ▸ hP)),fun _=>rfl⟩,fun b o e=>?_,rfl,rfl⟩,fun n o e=>?_,r.inj,r.new,fun b o e=>keep b o (r.base b o e) (fun q=>by rw [q,low] at e; injection e),fun P' hP'=>?_⟩
 ·by_cases q : b = P
  ·subst q; exact ⟨_,hn⟩
  ·exact ⟨o,keep b o e q⟩
 ·refine ex1_2 (r.obj n o e) fun ob h1 h2=>?_
  have hm : n < H.length:=(List.getElem?_eq_some_iff.mp e).1
  exact in1_2 ob (keep _ _ h1 fun q=>(r.new n hm).2 (q ▸ hP)) (h2.mono (fun _ _=>rfl) (Nat.le_refl _) fun cd u v=>⟨hc cd u,v⟩)
 ·refine ex1_3 (r.tabs P' hP') fun ps' h1 h2 h3=>?_
  by_cases q : P' = P
  ·subst q
   rw [hp] at h1
   cases h1
   refine in1_3 _ hn ?_ (fun pos c e=>?_)
   ·rw [Array.toList_append]; exact triples_app h2
   ·rw [Array.toList_append] at e
    rcases among_app h2 e with e | e
    ·refine ex1_3 (h3 pos c e) fun cd a1 a3 a4=>?_
     exact in1_3 cd a1 a3 (hc cd a4)
    ·refine in1_3 c' e (fun n hn' w=>?_) hcd
     obtain ⟨ob,w'⟩:=r.at hn'
     rw [w,hf] at w'; injection w'
  ·refine in1_3 ps' (keep _ _ h1 q) h2 (fun pos c e=>?_)
   refine ex1_3 (h3 pos c e) fun cd a1 a3 a4=>?_
   exact in1_3 cd a1 a3 (hc cd a4)
structure Good4 (C : Cx) : Prop extends Good3 C where
 bm : ∀ P,P ∈ C.tabs→C.base.BuiltinsAt C.mg P
theorem p_make {k : Nat} {c : List Nat} {name qual : Str} {pargs : Arguments} {fb : FuncBody} {lsc : Scope} {P cd : Addr} {pos : Pos} {fline : Nat} (G : Good C) (G2 : Good2 C) (G4 : Good4 C) (X : St C A l n φ H s cdv sc cs ρ env) (hk : isC k = true) (h1 : C.par k = pargs) (h2 : C.bod k = fb) (h3 : C.sco k = lsc)
  (hc : All2 (fun (j : Nat) x=>(celNames sc)[j]? = some x) c (freeNames lsc)) (h6 : C.cod k = .none) (h7 : cdv = .ref cd) (h8 : CodeHd C.base cd P) (h9 : P ∈ C.tabs) :
  Sim C A fl (VH C) (opt (caps cs c) >>= fun l=>new (.clo k l) >>= fun f=>Pure.pure (.ref f)) (PySem.makeFunction name qual pargs fb lsc env [] [] [] pos fline) φ H s:=by
 refine Sim.opt fun cl ecl=>?_
 have S:=G2.fnS k (.inr hk)
 have low:=G.low P h9
 have hg : s.heap.Ns mainGlobals C.mg:=G4.g.keeps fun b o e=>X.r.base b o e
 have hcode : env.code = .ref cd:=by
  rcases X.en.cod with q | q
  ·rw [h7] at q; injection q
  ·rw [q,h7]
 have HD : CodeHd s.heap cd P:=h8.keeps fun b o e=>X.r.base b o e
 refine ex1_3 (X.r.tabs P h9) fun ps t1 t2 t3=>?_
 have hb : s.heap.BuiltinsAt C.mg P:=by
  refine ex2_6 (G4.bm P h9) fun bm o b1 b2 b3 b4 b5 b6=>?_
  exact in2_6 bm o b1 b2 b3 b4 (X.r.base _ _ b5) b6
 have hgP : mainGlobals ≠ P:=fun q=>by
  refine ex3_2 G4.g fun o _ _ e _=>?_
  rw [q,low] at e; injection e
 let f : Str→Addr:=fun x=>(env.cells.lookup x).getD 0
 have hfree : ∀ (i : Nat) x,(freeNames lsc)[i]? = some x→∃ m : Nat,cl[i]? = some m∧m < H.length∧env.cells.lookup x = some (φ m):=fun i x e=>by
  have hi : i < c.length:=by rw [hc.length]; exact (List.getElem?_eq_some_iff.mp e).1
  refine ex1_2 (hc.get (List.getElem?_eq_getElem hi)) fun y hy hj=>?_
  rw [e] at hy
  cases hy
  obtain ⟨_,m,q1,q2,q3⟩:=X.en.cel _ x hj
  refine ex1_2 (caps_get ecl i _ (List.getElem?_eq_getElem hi)) fun m' q4 q5=>?_
  rw [q1] at q4
  cases q4
  exact in1_3 m q5 q2 q3
 have hfm : ∀ x,(x,PySem.NameKind.free) ∈ lsc.names→∃ i : Nat,(freeNames lsc)[i]? = some x:=fun x hx=>by
  have : x ∈ freeNames lsc:=List.mem_filterMap.mpr ⟨_,hx,by simp⟩
  obtain ⟨i,hi,e⟩:=List.getElem_of_mem this
  exact ⟨i,List.getElem?_eq_some_iff.mpr ⟨hi,e⟩⟩
 have hcl : PySem.closureFor lsc env = pure (closL f lsc.names []):=closureFor_eq fun x hx=>by
  obtain ⟨i,hi⟩:=hfm x hx
  refine ex1_3 (hfree i x hi) fun m _ _ q=>?_
  refine (?_ : env.cells.lookup x = some ((env.cells.lookup x).getD 0))
  rw [q]; rfl
 have hclo : ∀ (i : Nat) x,(freeNames lsc)[i]? = some x→∃ m : Nat,cl[i]? = some m∧m < H.length∧(closL f lsc.names []).lookup x = some (φ m):=fun i x e=>by
  refine ex1_3 (hfree i x e) fun m q1 q2 q3=>?_
  refine in1_3 m q1 q2 ?_
  rw [closL_lookup lsc.names [] (.inr (of_kind e)) (fun _ _ h=>by cases h)]
  refine (?_ : some ((env.cells.lookup x).getD 0) = _)
  rw [q3]; rfl
 have fin : ∀ (h' : Heap) (tk : Nat) (cd' : Addr) (fd : FuncData),Ext C φ H s φ H { s with heap:=h',toks:=tk }→Rel C φ H h'→CodeAt h' cd'→(∀ m,m < H.length→φ m ≠ cd')→fd.params = pargs→fd.body = fb→fd.scope = lsc→fd.globals = mainGlobals→fd.builtins = builtinsNs→fd.kwdefaults = .none→fd.code = .ref cd' →
   fd.defaults = .none→fd.closure = closL f lsc.names [] →
   OkP C (VH C) φ H s ((new (.clo k cl) >>= fun f=>(Pure.pure (V.ref f) : M V)) H) (.ref h'.objs.size) { s with heap:=h'.push { cls:=.type "function",data:=.func fd },toks:=tk }:=by
  intro h' tk cd' fd x1 r1 c1 c2 f1 f2 f3 f4 f5 f6 f7 f8 f9
  have hlt:=c1.lt
  obtain ⟨y1,y2⟩:=Rel.add (s:={ s with heap:=h',toks:=tk }) (tk:=tk) (o:=.clo k cl) (h':=h'.push { cls:=.type "function",data:=.func fd }) (a:=h'.objs.size) r1 (fun b o e=>Heap.get?_push_of_some _ e) (Heap.get?_push_size _ rfl) (get_size_none _)
   (.clo ⟨f1.trans h1.symm,f2.trans h2.symm,f3.trans h3.symm,f4,f5,f6,.inl h6,fun i x e=>by
     rw [h3] at e
     refine ex1_3 (hclo i x e) fun m q1 q2 q3=>?_
     exact in1_3 m q1 (Nat.lt_succ_of_lt q2) (by rw [f9,addφ_lt q2]; exact q3)⟩ f8 f7 (c1.keep fun o e=>⟨o.slots,Heap.get?_push_of_some _ e⟩) (fun m hm q=>by
     by_cases z : m < H.length
     ·rw [addφ_lt z] at q; exact c2 m z q
     ·have : m = H.length:=by lia
      subst this
      rw [addφ_at] at q
      rw [← q] at hlt
      exact Nat.lt_irrefl _ hlt))
  exact ⟨.ref H.length,_,_,rfl,x1.trans y1,y2,.refE (by simp) addφ_at.symm⟩
 intro _
 have ok : ∀ (c' : Addr) h' tk,Heap.ExtBut P s.heap h'→s.heap.objs.size ≤ c'→c' < h'.objs.size→h'.CodeRec (.ref c') qual→h'.get? P = some (tabObj (ps ++ #[rawInt pos.line,rawInt pos.col,.ref c'])) →
   Ext C φ H s φ H { s with heap:=h',toks:=tk }∧Rel C φ H h'∧CodeAt h' c'∧∀ m,m < H.length→φ m ≠ c':=fun c' h' tk q1 q2 q3 q4 q5=>by
  have hn:=Heap.get?_none_of_le q2
  have hcd : CodeAt h' c':=by
   (refine ex4_4 q4 fun c'' o vs t e z1 z2 z3=>?_; clear q4)
   cases e
   exact in3_3 o vs _ z1 z2 z3
  obtain ⟨w1,w2⟩:=Rel.tab (tk:=tk) X.r h9 t1 q1 q5 hn hcd low
  exact ⟨w1,w2,hcd,fun m hm w=>by
   obtain ⟨ob,w'⟩:=X.r.at hm
   rw [w,hn] at w'; injection w'⟩
 induction hca : PySem.codeAmong pos ps.toList using Option.casesOn with
 | none=>
  induction fb with
  | stmts b=>
   refine makeFunction_K hcl X.en.glo hg hcode HD t1 t2 hca hgP hb fun c' ctv doc h' tk q1 q2 q3 q4 q5=>?_
   refine ex0_4 (ok c' h' tk q1 q2 q3 q4 q5) fun w1 w2 w3 w4=>?_
   exact fin h' tk c' _ w1 w2 w3 w4 rfl rfl rfl rfl rfl rfl rfl rfl rfl
  | expr b=>
   refine kla_makeFunction hcl X.en.glo hg hcode HD t1 t2 hca hgP hb fun c' ctv h' tk q1 q2 q3 q4 q5=>?_
   refine ex0_4 (ok c' h' tk q1 q2 q3 q4 q5) fun w1 w2 w3 w4=>?_
   exact fin h' tk c' _ w1 w2 w3 w4 rfl rfl rfl rfl rfl rfl rfl rfl rfl
 | some cv=>
  (refine ex1_3 (t3 pos cv hca) fun cd' z1q u1 u2=>?_; subst z1q)
  induction fb with
  | stmts b=>
   refine makeFunction_hit hcl X.en.glo hg hcode HD t1 t2 hca hb fun ctv doc h' tk q1 q2=>?_
   exact fin h' tk cd' _ (grow_ext q1) (X.r.grow q1) (u2.keep fun o e=>⟨o.slots,q1 _ _ e⟩) u1 rfl rfl rfl rfl rfl rfl rfl rfl rfl
  | expr b=>
   refine kla_makeFunctionHit hcl X.en.glo hg hcode HD t1 t2 hca hb fun ctv h' tk q1 q2=>?_
   exact fin h' tk cd' _ (grow_ext q1) (X.r.grow q1) (u2.keep fun o e=>⟨o.slots,q1 _ _ e⟩) u1 rfl rfl rfl rfl rfl rfl rfl rfl rfl
theorem snd_lam (G : Good C) (G2 : Good2 C) (G4 : Good4 C) : SndX C (n + 1) isLamE:=by
 intro A l φ H s cdv sc cs ρ env e pe hp X he
 (refine ex2_1 hp fun k c z2q=>?_; clear hp; subst z2q)
 obtain ⟨pargs,pbody,lsc,p,P,cd,rfl,hk,h1,h2,h3,h4,h5,hc,h6,h7,h8,h9⟩:=he.inv
 have hd : PySem.defaultsOf pargs env = ([],[]):=by
  obtain ⟨_,_,_,_,kd,_,dd⟩:=pargs
  dsimp only at h4 h5
  subst h4 h5
  rfl
 refine (?_ : Sim C A env.frame (VH C) (if isC k then (opt (caps cs c) >>= fun l=>new (.clo k l) >>= fun f=>Pure.pure (.ref f)) else Mp.stuck) _ φ H s)
 rw [if_pos hk]
 intro hne
 exact kla_eval hd (p_make G G2 G4 X hk h1 h2 h3 hc h6 h7 h8 h9 hne)
end
section
variable {C : Cx} {A : Around} {fl : Option Addr} {φ : Nat→Addr} {H : List O} {s : Shared} {l : List Env} {d : Nat}
variable {n : Nat} {cdv : Value} {sc : Scope} {cs : List Nat} {ρ : Lo} {env : Env}
noncomputable def OwnIt (C : Cx) (h₀ : Heap) (φ : Nat→Addr) (N : Nat) (a : Addr) : Prop:=h₀.get? a = none∧Free C a∧∀ m,m < N→φ m ≠ a
noncomputable def SrcR (C : Cx) (h₀ : Heap) (φ : Nat→Addr) (N : Nat) (h : Heap) : Src→Value→Prop
 | .rng i k,v=>∃ it,v = .ref it∧IsRangeIter h it i k 1∧OwnIt C h₀ φ N it
 | .seq a i,v=>∃ it,v = .ref it∧h.IsListIter it (φ a) i∧a < N∧OwnIt C h₀ φ N it
 | .enm a i,v=>∃ e it old,v = .ref e∧IsEnum h e it (i : Int) old∧h.IsListIter it (φ a) i∧a < N∧e ≠ it∧OwnIt C h₀ φ N e∧OwnIt C h₀ φ N it
theorem OwnIt.fresh (r : Rel C φ H s.heap) {h₀ : Heap} (k : ∀ b o,h₀.get? b = some o→∃ o',s.heap.get? b = some o') {a : Addr} (ha : s.heap.get? a = none) : OwnIt C h₀ φ H.length a:=by
 refine in0_3 ?_ (r.free ha) (fun m hm q=>?_)
 ·induction e : h₀.get? a using Option.casesOn with
  | none=>rfl
  | some o=>obtain ⟨o',w⟩:=k _ _ e; rw [ha] at w; injection w
 ·obtain ⟨ob,w⟩:=r.at hm
  rw [q,ha] at w; injection w
noncomputable def srcD (ih : Ev) (cs : List Nat) (ρ : Lo) (it : E) : M Src:=ih.e cs ρ it >>= fun v=>match v with
 | .ref n=>getO n >>= fun o=>match o with
  | .list _=>Pure.pure (.seq n 0)
  | _=>Mp.stuck
 | _=>Mp.stuck
theorem src_nc {ih : Ev} {cs : List Nat} {ρ : Lo} {it : E} (h : it.ctorIdx ≠ 12) : src ih cs ρ it = srcD ih cs ρ it:=by
 induction it using Mp.E.casesOn <;> first | rfl | exact absurd rfl h
theorem src_ng {ih : Ev} {cs : List Nat} {ρ : Lo} {f : E} {as : List E} (h : f.ctorIdx ≠ 4) : src ih cs ρ (.call f as) = srcD ih cs ρ (.call f as):=by
 induction f using Mp.E.casesOn <;> first | rfl | exact absurd rfl h
theorem src_nt {ih : Ev} {cs : List Nat} {ρ : Lo} {v : V} {as : List E} (h : v.ctorIdx ≠ 8) : src ih cs ρ (.call (.glo v) as) = srcD ih cs ρ (.call (.glo v) as):=by
 induction v <;> first | rfl | exact absurd rfl h
theorem src_nk {ih : Ev} {cs : List Nat} {ρ : Lo} {k : Nat} {as : List E} (h : k ≠ 3) (h' : k ≠ 4) : src ih cs ρ (.call (.glo (.ty k)) as) = srcD ih cs ρ (.call (.glo (.ty k)) as):=by
 rcases k with _ | _ | _ | _ | _ | k <;> first | rfl | exact absurd rfl h | exact absurd rfl h'
theorem src_cases (ih : Ev) (cs : List Nat) (ρ : Lo) (it : E) : (∃ a,it = .call (.glo (.ty 3)) [a]) ∨ (∃ a b,it = .call (.glo (.ty 3)) [a,b]) ∨ (∃ a,it = .call (.glo (.ty 4)) [a]) ∨ src ih cs ρ it = srcD ih cs ρ it:=by
 by_cases h : it.ctorIdx = 12
 ·obtain ⟨f,as,rfl⟩ : ∃ f as,it = .call f as:=E.call.elim (motive_1:=fun it=>∃ f as,it = .call f as) it h fun f as=>⟨f,as,rfl⟩
  by_cases h4 : f.ctorIdx = 4
  ·obtain ⟨v,rfl⟩ : ∃ v,f = .glo v:=E.glo.elim (motive_1:=fun f=>∃ v,f = .glo v) f h4 fun v=>⟨v,rfl⟩
   by_cases h8 : v.ctorIdx = 8
   ·obtain ⟨k,rfl⟩ : ∃ k,v = .ty k:=V.ty.elim (motive:=fun v=>∃ k,v = .ty k) v h8 fun k=>⟨k,rfl⟩
    by_cases k3 : k = 3
    ·subst k3
     induction as using List.casesOn with
     | nil=>exact .inr (.inr (.inr rfl))
     | cons a r=>induction r using List.casesOn with
      | nil=>exact .inl ⟨_,rfl⟩
      | cons b r=>induction r using List.casesOn with
       | nil=>exact .inr (.inl ⟨_,_,rfl⟩)
       | cons=>exact .inr (.inr (.inr rfl))
    by_cases k4 : k = 4
    ·subst k4
     induction as using List.casesOn with
     | nil=>exact .inr (.inr (.inr rfl))
     | cons a r=>induction r using List.casesOn with
      | nil=>exact .inr (.inr (.inl ⟨_,rfl⟩))
      | cons=>exact .inr (.inr (.inr rfl))
    ·exact .inr (.inr (.inr (src_nk k3 k4)))
   ·exact .inr (.inr (.inr (src_nt h8)))
  ·exact .inr (.inr (.inr (src_ng h4)))
 ·exact .inr (.inr (.inr (src_nc h)))
theorem ev_glo {pf : Expr} {k : Nat} {Q : Value→Shared→Prop} {E : Value→Shared→Prop} (G3 : Good3 C) (X : St C A l n φ H s cdv sc cs ρ env) (h : TrE C cdv sc (.glo (.ty k)) pf) (q : Q (.type (tyName k)) s) : notAttr pf = true∧wpAny (model C.prog C.w) A (eval pf env) Q E s:=by
 (refine ex3_5 h.inv fun cv nm p z1q h1 h2 h3 h4=>?_; subst z1q)
 have hg : s.heap.Ns env.globals C.mg:=by rw [X.en.glo]; exact G3.g.keeps fun b o e=>X.r.base b o e
 have hb : s.heap.Ns env.builtins C.mb:=by rw [X.en.bui]; exact G3.b.keeps fun b o e=>X.r.base b o e
 have e:=h4 φ 0
 cases e
 refine ⟨rfl,Name_function_global X.en.kind (X.en.gim _ h1) ?_ h2⟩
 rcases h3 with h3 | ⟨h3,h5⟩
 ·exact loadGlobal_global hg h3 q
 ·exact loadGlobal_builtin hg h3 hb h5 q
noncomputable def SrcPost (C : Cx) (A : Around) (fl : Option Addr) (m : M Src) (φ : Nat→Addr) (H : List O) (s : Shared) (t : Sem Value) : Prop:=
 wpAny (model C.prog C.w) A t (fun x s₁=>wpAny (model C.prog C.w) A (pyIter x) (OkP C (SrcR C s.heap) φ H s (m H)) (fun _ _=>False) s₁)
  (ErP C fl φ H s (m H)) s
theorem src_default {it : E} {pi : Expr} (E0 : SndE C n) (X : St C A l n φ H s cdv sc cs ρ env) (h : TrE C cdv sc it pi) (hne : srcD (ev n) cs ρ it H ≠ .stuck) : SrcPost C A env.frame (srcD (ev n) cs ρ it) φ H s (eval pi env):=by
 refine wpAny_mono (E0 X h fun z=>hne (bind_stuck z)) ?_ ?_
 ·intro x s₁ zq; obtain ⟨v,H₁,φ₁,q1,x1,r1,v1⟩:=zq
  unfold srcD at hne ⊢
  rw [bind_at q1] at hne ⊢
  induction v1 <;> try exact absurd rfl hne
  rename_i m hm
  induction e : H₁[m]? using Option.casesOn with
  | none=>exact absurd (bind_stuck (by unfold getO; rw [e])) hne
  | some o=>
   have hne : (getO m >>= fun o=>match o with | .list _=>(Pure.pure (.seq m 0) : M Src) | _=>Mp.stuck) H₁ ≠ .stuck:=hne
   rw [bind_at (getO_eq e)] at hne
   induction o <;> try exact absurd rfl hne
   refine ex2_4 (isList r1 e) fun vs ep a1 a2 a3 a4=>?_
   refine wpAny_pyIter_list a2 ⟨.seq m 0,H₁,φ₁,?_,x1.trans (grow_ext (tk:=s₁.toks) fun b o e=>Heap.get?_push_of_some _ e),r1.grow fun b o e=>Heap.get?_push_of_some _ e,?_⟩
   ·refine (?_ : (getO m >>= _) H₁ = _)
    rw [bind_at (getO_eq e)]; rfl
   ·exact in1_4 s₁.heap.objs.size rfl ⟨_,Heap.get?_push_size _ rfl,rfl,rfl⟩ hm (OwnIt.fresh r1 x1.live (get_size_none _))
 ·intro ce s₁ zq; obtain ⟨k,H₁,φ₁,q1,x1,r1,v1⟩:=zq
  exact ⟨k,H₁,φ₁,bind_err q1,x1,r1,v1⟩
theorem mach (C : Cx) (h : Heap) (T : String) : KeptBy C h (.type T):=⟨.machine,.inr (.inl rfl),fun A Q E s k q=>wpAny_pure q⟩
theorem callWith_ty {T : String} {pas : List Expr} {p : Pos} {Q : Value→Shared→Prop} {E : Value→Shared→Prop} (ns : pas.all notStar = true) (hp : pas ≠ [])
  (h : wpAny (model C.prog C.w) A (PySem.spliced (backTo p (starEach pas env))) (fun vs s₁=>wpAny (model C.prog C.w) A (call (.type T) vs) Q E s₁) E s) :
  wpAny (model C.prog C.w) A (PySem.callWith p (.type T) [] (backTo p (starEach pas env)) []) Q E s:=by
 refine callWith_of (P:=fun h=>KeptBy C h (.type T)) (by rw [plain_args ns]; rfl) (fun h z=>z) ?_
 induction pas using List.casesOn with
 | nil=>exact absurd rfl hp
 | cons e r=>
  rw [List.all_cons,Bool.and_eq_true] at ns
  rw [starEach_cons ns.1] at h ⊢
  exact evalArgs_plain (wpAny_mono h (fun vs s₁ h₁=>⟨mach C _ T,h₁⟩) fun _ _ z=>z)
theorem int_of {N : Nat} {i : Int} {c : Value} (h : VR C φ N (.int i) c) : ∃ t,c = .int i t:=h.inv
theorem rng_post {a b : Int} {t u v : Nat} {r0 : Addr} {s₁ : Shared} {φ₁ : Nat→Addr} {H₁ : List O} {m : M Src} {h₀ : Shared} {φ₀ : Nat→Addr} {H₀ : List O} (ha : a.natAbs < 1000000) (hb : b.natAbs < 1000000)
  (hm : m H₀ = .ok (.rng a (b - a).toNat) H₁) (x : Ext C φ₀ H₀ h₀ φ₁ H₁ s₁) (r : Rel C φ₁ H₁ s₁.heap) (hr : IsRange s₁.heap r0 a b 1 t u v) :
  wpAny (model C.prog C.w) A (pyIter (.ref r0)) (OkP C (SrcR C h₀.heap) φ₀ H₀ h₀ (m H₀)) (fun _ _=>False) s₁:=by
 have hsz : Builtin.Range.rangeSize a b 1 = ((b - a).toNat : Int):=by rw [rangeSize_one]; split <;> lia
 refine wpAny_pyIter_range hr (small_one (by lia) (by lia) (by lia) (by lia)) ⟨_,H₁,φ₁,hm,x.trans (grow_ext (tk:=s₁.toks) fun b o e=>Heap.get?_push_of_some _ e),r.grow fun b o e=>Heap.get?_push_of_some _ e,?_⟩
 refine in1_3 s₁.heap.objs.size rfl ?_ (OwnIt.fresh r x.live (get_size_none _))
 rw [hsz]
 exact Heap.get?_push_size _ rfl
theorem eval_call {pf : Expr} {pas : List Expr} {p : Pos} {env : Env} (hna : notAttr pf = true) : eval (.Call pf pas [] p) env = eval pf env >>= fun g=>PySem.callWith p g [] (backTo p (starEach pas env)) []:=by
 induction pf using Expr.casesOn <;> first | rfl | cases hna
theorem two_vals {n : Nat} {φ : Nat→Addr} {vs : List V} {xs : List Value} (hl : vs.length = 2) (h : All2 (VR C φ n) vs xs) : ∃ a b c d,vs = [a,b]∧xs = [c,d]∧VR C φ n a c∧VR C φ n b d:=by
 induction vs using List.casesOn with
 | nil=>injection hl
 | cons a r=>induction r using List.casesOn with
  | nil=>injection Nat.succ.inj hl
  | cons b r=>induction r using List.casesOn with
   | cons=>injection Nat.succ.inj (Nat.succ.inj hl)
   | nil=>
    refine ex2_3 h.inv fun c t z1 h1 h=>?_
    refine ex2_3 h.inv fun d t z2 h2 h=>?_
    exact in4_4 a b c d rfl (by rw [z1,z2,h.inv]) h1 h2
theorem p_src {it : E} {pi : Expr} (G3 : Good3 C) (E0 : SndE C n) (Es : SndEs C n) (X : St C A l n φ H s cdv sc cs ρ env) (h : TrE C cdv sc it pi) (hne : src (ev n) cs ρ it H ≠ .stuck) : SrcPost C A env.frame (src (ev n) cs ρ it) φ H s (eval pi env):=by
 rcases src_cases (ev n) cs ρ it with ⟨a,rfl⟩ | ⟨a,b,rfl⟩ | ⟨a,rfl⟩ | e
 ·(refine ex3_6 h.inv fun pf pas p z2q hf has hna ns hz=>?_; subst z2q)
  cases has with
  | @cons _ pa _ _ ha hr=>
  cases hr
  have e0:=eval_call (pas:=[pa]) (p:=p) (env:=env) hna
  have e1 : src (ev n) cs ρ (.call (.glo (.ty 3)) [a]) = ((ev n).e cs ρ a >>= fun v=>match v with | .int n=>if n.natAbs < 1000000 then Pure.pure (.rng 0 n.toNat) else Mp.stuck | _=>Mp.stuck):=rfl
  unfold SrcPost
  rw [e0,e1]
  rw [e1] at hne
  refine wpAny_bind ((ev_glo G3 X hf ?_).2)
  refine callWith_ty ns (by simp) ?_
  have ns1 : notStar pa = true:=by simpa using ns
  rw [starEach_cons ns1]
  refine spliced_cons (wpAny_mono (E0 X ha fun z=>hne (bind_stuck z)) ?_ ?_)
  ·intro x s₁ zq; obtain ⟨v,H₁,φ₁,q1,x1,r1,v1⟩:=zq
   refine spliced_nil ?_
   rw [bind_at q1] at hne
   induction v <;> try exact absurd rfl hne
   rename_i i
   obtain ⟨t,rfl⟩:=int_of v1
   dsimp only at hne
   by_cases hi : i.natAbs < 1000000
   ·refine call_range_1 ?_
    have g : ∀ b o,s₁.heap.get? b = some o→(s₁.heap.push { cls:=.type "range",data:=.fields #[.int 0 s₁.toks,.int i t,.int 1 (s₁.toks + 1)] }).get? b = some o:=fun b o e=>Heap.get?_push_of_some _ e
    exact rng_post (a:=0) (b:=i) (by decide) hi (by rw [bind_at q1]; dsimp only; rw [if_pos hi,Int.sub_zero]; rfl) (x1.trans (grow_ext (tk:=s₁.toks + 1 + 1) g)) (r1.grow g) (IsRange.new _ 0 i 1 s₁.toks t (s₁.toks + 1))
   ·rw [if_neg hi] at hne; exact absurd rfl hne
  ·intro ce s₁ zq; obtain ⟨k,H₁,φ₁,q1,x1,r1,v1⟩:=zq
   exact ⟨k,H₁,φ₁,bind_err q1,x1,r1,v1⟩
 ·(refine ex3_6 h.inv fun pf pas p z3q hf has hna ns hz=>?_; subst z3q)
  have hpas : pas ≠ []:=by intro q; subst q; cases has
  have e0:=eval_call (pas:=pas) (p:=p) (env:=env) hna
  have e1 : src (ev n) cs ρ (.call (.glo (.ty 3)) [a,b]) = ((ev n).es cs ρ [a,b] >>= fun v=>match v with | [.int i,.int n]=>if i.natAbs < 1000000∧n.natAbs < 1000000 then Pure.pure (.rng i (n - i).toNat) else Mp.stuck | _=>Mp.stuck):=rfl
  unfold SrcPost
  rw [e0,e1]
  rw [e1] at hne
  refine wpAny_bind ((ev_glo G3 X hf ?_).2)
  refine callWith_ty ns hpas ?_
  refine wpAny_mono (Es X has ns fun z=>hne (bind_stuck z)) ?_ ?_
  ·intro xs s₁ zq; obtain ⟨vs,H₁,φ₁,q1,x1,r1,v1⟩:=zq
   rw [bind_at q1] at hne
   have hl:=es_len q1
   (refine ex4_4 (two_vals hl v1) fun v w cv cw z4q z5q a1 a2=>?_; subst z4q; subst z5q)
   ·induction v <;> try exact absurd rfl hne
    induction w <;> try exact absurd rfl hne
    rename_i i j
    obtain ⟨t,rfl⟩:=int_of a1
    obtain ⟨u,rfl⟩:=int_of a2
    dsimp only at hne
    by_cases hi : i.natAbs < 1000000∧j.natAbs < 1000000
    ·refine call_range_2 ?_
     have g : ∀ b o,s₁.heap.get? b = some o→(s₁.heap.push { cls:=.type "range",data:=.fields #[.int i t,.int j u,.int 1 s₁.toks] }).get? b = some o:=fun b o e=>Heap.get?_push_of_some _ e
     exact rng_post hi.1 hi.2 (by rw [bind_at q1]; dsimp only; rw [if_pos hi]; rfl) (x1.trans (grow_ext (tk:=s₁.toks + 1) g)) (r1.grow g) (IsRange.new _ i j 1 t u s₁.toks)
    ·rw [if_neg hi] at hne; exact absurd rfl hne
  ·intro ce s₁ zq; obtain ⟨k,H₁,φ₁,q1,x1,r1,v1⟩:=zq
   exact ⟨k,H₁,φ₁,bind_err q1,x1,r1,v1⟩
 ·(refine ex3_6 h.inv fun pf pas p z6q hf has hna ns hz=>?_; subst z6q)
  cases has with
  | @cons _ pa _ _ ha hr=>
  cases hr
  have e0:=eval_call (pas:=[pa]) (p:=p) (env:=env) hna
  have e1 : src (ev n) cs ρ (.call (.glo (.ty 4)) [a]) = ((ev n).e cs ρ a >>= fun v=>match v with
   | .ref n=>getO n >>= fun o=>match o with
    | .list _=>Pure.pure (.enm n 0)
    | _=>Mp.stuck
   | _=>Mp.stuck):=rfl
  unfold SrcPost
  rw [e0,e1]
  rw [e1] at hne
  refine wpAny_bind ((ev_glo G3 X hf ?_).2)
  refine callWith_ty ns (by simp) ?_
  have ns1 : notStar pa = true:=by simpa using ns
  rw [starEach_cons ns1]
  refine spliced_cons (wpAny_mono (E0 X ha fun z=>hne (bind_stuck z)) ?_ ?_)
  ·intro x s₁ zq; obtain ⟨v,H₁,φ₁,q1,x1,r1,v1⟩:=zq
   refine spliced_nil ?_
   rw [bind_at q1] at hne
   induction v1 <;> try exact absurd rfl hne
   rename_i m hm
   induction e : H₁[m]? using Option.casesOn with
   | none=>exact absurd (bind_stuck (by unfold getO; rw [e])) hne
   | some o=>
    have hne : (getO m >>= fun o=>match o with | .list _=>(Pure.pure (.enm m 0) : M Src) | _=>Mp.stuck) H₁ ≠ .stuck:=hne
    rw [bind_at (getO_eq e)] at hne
    induction o <;> try exact absurd rfl hne
    refine ex2_4 (isList r1 e) fun vs ep a1 a2 a3 a4=>?_
    refine call_enumerate_1 a1 fun h' k1 k2 k3 g=>?_
    refine wpAny_pyIter_enum (i:=0) (old:=.none) k1 ⟨.enm m 0,H₁,φ₁,?_,x1.trans (grow_ext (tk:=s₁.toks) g),r1.grow g,?_⟩
    ·rw [bind_at q1]
     refine (?_ : (getO m >>= _) H₁ = _)
     rw [bind_at (getO_eq e)]; rfl
    ·refine in3_7 _ _ _ rfl k1 k2 hm (Nat.succ_ne_self _) (OwnIt.fresh r1 x1.live (Heap.get?_none_of_le (Nat.le_succ _))) (OwnIt.fresh r1 x1.live (get_size_none _))
  ·intro ce s₁ zq; obtain ⟨k,H₁,φ₁,q1,x1,r1,v1⟩:=zq
   exact ⟨k,H₁,φ₁,bind_err q1,x1,r1,v1⟩
 ·rw [e] at hne ⊢
  exact src_default E0 X h hne
end
section
variable {C : Cx} {A : Around} {fl : Option Addr} {φ : Nat→Addr} {H : List O} {s : Shared} {l : List Env} {d : Nat}
variable {n : Nat} {cdv : Value} {sc : Scope} {cs : List Nat} {ρ : Lo} {env : Env}
section
variable {prog : Program} {w : World} {E : Value→Shared→Prop}
noncomputable def Left (it : Addr) (h h' : Heap) : Prop:=(∀ b o,h.get? b = some o→b ≠ it→h'.get? b = some o)∧∃ o vs,h'.get? it = some o∧o.data = .fields vs∧1 < vs.size
theorem left_set {it : Addr} {h : Heap} {o : Obj} {vs : Array Value} {i : Nat} {v : Value} (ho : h.get? it = some o) (hd : o.data = .fields vs) (hz : 1 < vs.size) (a b : Obj) : Left it h (((h.update it (Obj.mapFields (·.setIfInBounds i v))).push a).push b):=by
 have e0:=mapFields_eq hd (·.setIfInBounds i v)
 refine ⟨fun c o' e hc=>Heap.get?_push_of_some _ (Heap.get?_push_of_some _ ((Heap.get?_update_other _ _ (Ne.symm hc)).trans e)),?_⟩
 have:=Heap.get?_update_self (Obj.mapFields (·.setIfInBounds i v)) ho (by rw [e0]; rfl)
 rw [e0] at this
 exact in2_3 _ _ (Heap.get?_push_of_some _ (Heap.get?_push_of_some _ this)) rfl (by rw [Array.size_setIfInBounds]; exact hz)
theorem left_push {it : Addr} {h : Heap} {o : Obj} {vs : Array Value} (ho : h.get? it = some o) (hd : o.data = .fields vs) (hz : 1 < vs.size) (a b : Obj) : Left it h ((h.push a).push b):=
 ⟨fun c o' e _=>Heap.get?_push_of_some _ (Heap.get?_push_of_some _ e),o,vs,Heap.get?_push_of_some _ (Heap.get?_push_of_some _ ho),hd,hz⟩
theorem list_end {it a : Addr} {i : Nat} {items} {Q : Option Value→Shared→Prop} (hh : A.handled = none)
  (hit : s.heap.IsListIter it a i) (hl : s.heap.IsList a items) (hx : items[i]? = none)
  (hQ : ∀ h',Left it s.heap h'→Q none { s with heap:=h' }) : wpAny (model prog w) A (pyNext (.ref it)) Q E s:=by
 refine ex1_3 (id hit) fun o ho hc hd=>?_
 obtain ⟨ol,hol,_,nl,hdl⟩:=hl
 unfold pyNext
 refine wpAny_bind (wpAny_attempt (wpAny_callSpecial?_slot (name:=Str.ofString "__next__") hit.typeIs slot_listiter_next
  (wpAny_call_entry slot_listiter_next hit.typeIs entry_listiter_next ?_ (args_listiter_next _))))
 refine (?_ : wpAny _ _ (field (.ref it) 0 >>= _) _ _ s)
 refine wpAny_bind (wpAny_field ho hd (x:=.ref a) rfl ?_)
 refine (?_ : wpAny _ _ (if (Value.ref a == Value.none) = true then _ else _) _ _ s)
 rw [if_neg (show ¬ ((Value.ref a == Value.none) = true) from Bool.false_ne_true)]
 refine (?_ : wpAny _ _ (field (.ref it) 1 >>= _) _ _ s)
 refine wpAny_bind (wpAny_field ho hd (x:=.int i 0) rfl ?_)
 refine (?_ : wpAny _ _ (PySem.seqItems? (.ref a) >>= _) _ _ s)
 refine wpAny_bind (wpAny_seqItems hol hdl ?_)
 simp only [Int.toNat_natCast,hx]
 refine wpAny_bind (wpAny_rule (wpAny_bind (wpAny_setField ho hd (by simp) ?_)))
 refine (?_ : wpAny _ _ (newExc (.type "StopIteration") [] >>= _) _ _ _)
 refine wpAny_bind ?_
 simp only [newExc,newTuple]
 refine wpAny_bind (wpAny_newObj_type ?_ (by size_fits))
 refine wpAny_bind (m:=firstArgMember _ _) (wpAny_of_eq (a:=Value.none) (by first | rfl | (simp only [firstArgMember]; rfl)) ?_)
 refine wpAny_newObj_type ?_ (by size_fits)
 simp only [raiseNew]
 refine wpAny_bind (wpAny_handled ?_)
 rw [show A.in1.handled = none from hh]
 refine wpAny_bind (wpAny_pure (wpAny_throw ?_))
 refine wpAny_bind (wpAny_isInstance (T:="StopIteration") (b:=true) ⟨_,Heap.get?_push_size _ rfl,rfl⟩ isSubtype_stop ?_)
 exact wpAny_pure (hQ _ (left_set ho hd (by simp) _ _))
theorem range_end {it : Addr} {x left step : Int} {Q : Option Value→Shared→Prop} (hh : A.handled = none) (hit : IsRangeIter s.heap it x left step) (hleft : left ≤ 0)
  (hQ : ∀ h',Left it s.heap h'→Q none { s with heap:=h' }) : wpAny (model prog w) A (pyNext (.ref it)) Q E s:=by
 have hT : s.TypeIs (.ref it) "range_iterator":=⟨_,hit,rfl⟩
 unfold pyNext
 refine wpAny_bind (wpAny_attempt (wpAny_callSpecial?_slot (name:=Str.ofString "__next__") hT PySem.F.slot_range_iterator_next
  (wpAny_call_entry PySem.F.slot_range_iterator_next hT PySem.F.entry_range_iterator_next ?_ (PySem.F.args_range_iterator_next_1 _))))
 refine (?_ : wpAny _ _ (field (.ref it) 0 >>= _) _ _ s)
 refine wpAny_bind (wpAny_field hit rfl (x:=rawInt x) rfl ?_)
 refine (?_ : wpAny _ _ (field (.ref it) 1 >>= _) _ _ s)
 refine wpAny_bind (wpAny_field hit rfl (x:=rawInt left) rfl ?_)
 refine (?_ : wpAny _ _ (field (.ref it) 2 >>= _) _ _ s)
 refine wpAny_bind (wpAny_field hit rfl (x:=rawInt step) rfl ?_)
 refine (?_ : wpAny _ _ (if left ≤ 0 then _ else _) _ _ s)
 rw [if_pos hleft]
 refine wpAny_bind (wpAny_rule ?_)
 refine wpAny_bind ?_
 refine (?_ : wpAny _ _ (newExc (.type "StopIteration") [] >>= _) _ _ _)
 refine wpAny_bind ?_
 simp only [newExc,newTuple]
 refine wpAny_bind (wpAny_newObj_type ?_ (by size_fits))
 refine wpAny_bind (m:=firstArgMember _ _) (wpAny_of_eq (a:=Value.none) (by first | rfl | (simp only [firstArgMember]; rfl)) ?_)
 refine wpAny_newObj_type ?_ (by size_fits)
 simp only [raiseNew]
 refine wpAny_bind (wpAny_handled ?_)
 first | rw [show A.in1.handled = none from hh] | rw [hh]
 refine wpAny_bind (wpAny_pure (wpAny_throw ?_))
 refine wpAny_bind (wpAny_isInstance (T:="StopIteration") (b:=true) ⟨_,Heap.get?_push_size _ rfl,rfl⟩ isSubtype_stop ?_)
 exact wpAny_pure (hQ _ (left_push hit rfl (by simp) _ _))
theorem enum_end {e it a : Addr} {i : Nat} {items : Array Value} {old : Value} {Q : Option Value→Shared→Prop} (hh : A.handled = none)
  (he : IsEnum s.heap e it i old) (hit : s.heap.IsListIter it a i) (hl : s.heap.IsList a items) (hx : items[i]? = none)
  (hQ : ∀ h',Left it s.heap h'→Q none { s with heap:=h' }) : wpAny (model prog w) A (pyNext (.ref e)) Q E s:=by
 have hT : s.TypeIs (.ref e) "enumerate":=⟨_,he,rfl⟩
 refine ex1_3 (id hit) fun o ho hc hd=>?_
 obtain ⟨ol,hol,_,nl,hdl⟩:=hl
 unfold pyNext
 refine wpAny_bind (wpAny_attempt (wpAny_callSpecial?_slot (name:=Str.ofString "__next__") hT PySem.F.slot_enumerate_next
  (wpAny_call_entry PySem.F.slot_enumerate_next hT PySem.F.entry_enumerate_next ?_ (PySem.F.args_enumerate_next_1 _))))
 refine (?_ : wpAny _ _ (field (.ref e) 2 >>= _) _ _ _)
 refine wpAny_bind (wpAny_field he rfl (x:=.ref it) rfl ?_)
 refine wpAny_bind (m:=Builtin.SmallTypes.nextOf _) ?_
 unfold Builtin.SmallTypes.nextOf
 refine wpAny_bind (wpAny_callSpecial?_slot (name:=Str.ofString "__next__") hit.typeIs slot_listiter_next
  (wpAny_call_entry slot_listiter_next hit.typeIs entry_listiter_next ?_ (args_listiter_next _)))
 refine (?_ : wpAny _ _ (field (.ref it) 0 >>= _) _ _ s)
 refine wpAny_bind (wpAny_field ho hd (x:=.ref a) rfl ?_)
 refine (?_ : wpAny _ _ (if (Value.ref a == Value.none) = true then _ else _) _ _ s)
 rw [if_neg (show ¬ ((Value.ref a == Value.none) = true) from Bool.false_ne_true)]
 refine (?_ : wpAny _ _ (field (.ref it) 1 >>= _) _ _ s)
 refine wpAny_bind (wpAny_field ho hd (x:=.int i 0) rfl ?_)
 refine (?_ : wpAny _ _ (PySem.seqItems? (.ref a) >>= _) _ _ s)
 refine wpAny_bind (wpAny_seqItems hol hdl ?_)
 simp only [Int.toNat_natCast,hx]
 refine wpAny_bind (wpAny_rule (wpAny_bind (wpAny_setField ho hd (by simp) ?_)))
 refine (?_ : wpAny _ _ (newExc (.type "StopIteration") [] >>= _) _ _ _)
 refine wpAny_bind ?_
 simp only [newExc,newTuple]
 refine wpAny_bind (wpAny_newObj_type ?_ (by size_fits))
 refine wpAny_bind (m:=firstArgMember _ _) (wpAny_of_eq (a:=Value.none) (by first | rfl | (simp only [firstArgMember]; rfl)) ?_)
 refine wpAny_newObj_type ?_ (by size_fits)
 simp only [raiseNew]
 refine wpAny_bind (wpAny_handled ?_)
 first | rw [show A.in1.in1.handled = none from hh] | rw [show A.in1.handled = none from hh] | rw [hh]
 refine wpAny_bind (wpAny_pure (wpAny_throw ?_))
 refine wpAny_bind (wpAny_isInstance (T:="StopIteration") (b:=true) ⟨_,Heap.get?_push_size _ rfl,rfl⟩ isSubtype_stop ?_)
 exact wpAny_pure (hQ _ (left_set ho hd (by simp) _ _))
end
end
section
variable {C : Cx} {A : Around} {fl : Option Addr} {φ : Nat→Addr} {H : List O} {s : Shared} {l : List Env} {d : Nat}
variable {n : Nat} {cdv : Value} {sc : Scope} {cs : List Nat} {ρ : Lo} {env : Env}
theorem iter_flds {h : Heap} {it a : Addr} {i : Nat} (x : h.IsListIter it a i) : ∃ o vs,h.get? it = some o∧o.data = .fields vs∧1 < vs.size:=by
 (refine ex1_3 x fun o ho hc hd=>?_; clear x)
 exact in2_3 o _ ho hd (by simp)
theorem flds_at {h : Heap} {it a : Addr} {i : Nat} (x : h.IsListIter it a i) : ∃ o vs,h.get? it = some o∧o.data = .fields vs:=let ⟨o,vs,a,b,_⟩:=iter_flds x; ⟨o,vs,a,b⟩
theorem p_next {h₀ : Heap} {Z : Shared→Prop} {src : Src} {v : Value} {Q : Option Value→Shared→Prop} {E : Value→Shared→Prop} (hh : A.handled = none) (tch : ∀ (T : Addr→Prop) (h' : Heap) (tk : Nat),(∀ a,T a→OwnIt C h₀ φ H.length a)→(∀ b o,s.heap.get? b = some o→¬ T b→h'.get? b = some o)→(∀ a,T a→∃ o vs,h'.get? a = some o∧o.data = .fields vs∧1 < vs.size)→(∀ a,T a→∃ o vs,s.heap.get? a = some o∧o.data = .fields vs)→Z { s with heap:=h',toks:=tk }∧Rel C φ H h') (r : Rel C φ H s.heap) (sr : SrcR C h₀ φ H.length s.heap src v) (hne : nextS src H ≠ .stuck)
  (hend : ∀ s',nextS src H = .ok none H→Z s'→Rel C φ H s'.heap→(∀ b o,s.heap.get? b = some o→¬ OwnIt C h₀ φ H.length b→s'.heap.get? b = some o)→Q none s')
  (hone : ∀ s' u cu src',nextS src H = .ok (some ([u],src')) H→Z s'→Rel C φ H s'.heap→(∀ b o,s.heap.get? b = some o→¬ OwnIt C h₀ φ H.length b→s'.heap.get? b = some o)→VR C φ H.length u cu→SrcR C h₀ φ H.length s'.heap src' v→(∀ a j,src ≠ .enm a j)→Q (some cu) s')
  (htwo : ∀ s' a i u cu e it T tk,src = .enm a i→v = .ref e→nextS src H = .ok (some ([.int i,u],.enm a (i + 1))) H→Z s'→Rel C φ H s'.heap→(∀ b o,s.heap.get? b = some o→¬ OwnIt C h₀ φ H.length b→s'.heap.get? b = some o)→VR C φ H.length u cu →
   IsEnumOut s'.heap e it ((i : Int) + 1) cu T→s'.heap.IsListIter it (φ a) (i + 1)→a < H.length→e ≠ it→OwnIt C h₀ φ H.length e→OwnIt C h₀ φ H.length it→s'.heap.get? T = some { cls:=.type "tuple",data:=.seq #[.int (i : Int) tk,cu] }→s.heap.get? T = none→Q (some (.ref T)) s') :
  wpAny (model C.prog C.w) A (pyNext v) Q E s:=by
 induction src with
 | rng i k=>
  (refine ex1_3 sr fun it z1q h1 h2=>?_; clear sr; subst z1q)
  induction k with
  | zero=>
   refine range_end hh h1 (by simp) fun h' ⟨k1,k2⟩=>?_
   obtain ⟨x1,x2⟩:=tch (fun b=>b = it) _ (s.toks) (fun b e=>e ▸ h2) (fun b o e q=>k1 b o e q) (fun b e=>e ▸ k2) (fun b e=>e ▸ ⟨_,_,h1,rfl⟩)
   exact hend _ rfl x1 x2 fun b o e q=>k1 b o e fun w=>q (w ▸ h2)
  | succ k=>
   refine wpAny_pyNext_range_item h1 (by lia) fun h' k1 k2=>?_
   obtain ⟨x1,x2⟩:=tch (fun b=>b = it) _ (s.toks + 1) (fun b e=>e ▸ h2) (fun b o e q=>(k2.2 b q).trans e) (fun b e=>⟨_,_,e ▸ k1,rfl,by simp⟩) (fun b e=>e ▸ ⟨_,_,h1,rfl⟩)
   refine hone _ (.int i) _ (.rng (i + 1) k) rfl x1 x2 (fun b o e q=>(k2.2 b fun w=>q (w ▸ h2)).trans e) (.int _ _) ⟨it,rfl,?_,h2⟩ (fun a j w=>by injection w)
   have : ((k + 1 : Nat) : Int) - 1 = (k : Int):=by lia
   rw [this] at k1
   exact k1
 | seq a i=>
  (refine ex1_4 sr fun it z2q h1 h3 h2=>?_; clear sr; subst z2q)
  induction e1 : H[a]? using Option.casesOn with
  | none=>exact absurd (bind_stuck (by unfold getO; rw [e1])) hne
  | some o=>
   have hne : (getO a >>= fun o=>match o with | .list xs=>(match xs[i]? with | some x=>Pure.pure (some ([x],.seq a (i + 1))) | none=>Pure.pure none : M (Option (List V × Src))) | _=>Mp.stuck) H ≠ .stuck:=hne
   rw [bind_at (getO_eq e1)] at hne
   obtain ⟨xs,rfl⟩:=only_list hne
   refine ex2_4 (isList r e1) fun vs ep a1 a2 a3 a4=>?_
   have en : nextS (.seq a i) H = (match xs[i]? with | some x=>Pure.pure (some ([x],.seq a (i + 1))) | none=>Pure.pure none : M (Option (List V × Src))) H:=by
    refine (?_ : (getO a >>= _) H = _)
    rw [bind_at (getO_eq e1)]
    all_goals rfl
   induction e2 : xs[i]? using Option.casesOn with
   | none=>
    have e3 : vs.toArray[i]? = none:=by
     have : xs.length ≤ i:=List.getElem?_eq_none_iff.mp e2
     rw [Array.getElem?_eq_none_iff]; simp; rw [← a3.length]; exact this
    refine list_end hh h1 a2 e3 fun h' ⟨k1,k2⟩=>?_
    obtain ⟨x1,x2⟩:=tch (fun b=>b = it) _ (s.toks) (fun b e=>e ▸ h2) (fun b o e q=>k1 b o e q) (fun b e=>e ▸ k2) (fun b e=>e ▸ flds_at h1)
    exact hend _ (by rw [en,e2]; rfl) x1 x2 fun b o e q=>k1 b o e fun w=>q (w ▸ h2)
   | some u=>
    refine ex1_2 (a3.get e2) fun cu e3 vu=>?_
    refine wpAny_pyNext_list_item h1 a2 (by simpa using e3) fun h' k1 k2=>?_
    obtain ⟨x1,x2⟩:=tch (fun b=>b = it) _ (s.toks) (fun b e=>e ▸ h2) (fun b o e q=>(k2.2 b q).trans e) (fun b e=>e ▸ iter_flds k1) (fun b e=>e ▸ flds_at h1)
    exact hone _ u _ (.seq a (i + 1)) (by rw [en,e2]; rfl) x1 x2 (fun b o e q=>(k2.2 b fun w=>q (w ▸ h2)).trans e) vu ⟨it,rfl,k1,h3,h2⟩ (fun a j w=>by injection w)
 | enm a i=>
  (refine ex3_7 sr fun e it old z3q h1 h2 h3 h4 h5 h6=>?_; clear sr; subst z3q)
  induction e1 : H[a]? using Option.casesOn with
  | none=>exact absurd (bind_stuck (by unfold getO; rw [e1])) hne
  | some o=>
   have hne : (getO a >>= fun o=>match o with | .list xs=>(match xs[i]? with | some x=>Pure.pure (some ([.int i,x],.enm a (i + 1))) | none=>Pure.pure none : M (Option (List V × Src))) | _=>Mp.stuck) H ≠ .stuck:=hne
   rw [bind_at (getO_eq e1)] at hne
   obtain ⟨xs,rfl⟩:=only_list hne
   refine ex2_4 (isList r e1) fun vs ep a1 a2 a3 a4=>?_
   have en : nextS (.enm a i) H = (match xs[i]? with | some x=>Pure.pure (some ([.int i,x],.enm a (i + 1))) | none=>Pure.pure none : M (Option (List V × Src))) H:=by
    refine (?_ : (getO a >>= _) H = _)
    rw [bind_at (getO_eq e1)]
    all_goals rfl
   induction e2 : xs[i]? using Option.casesOn with
   | none=>
    have e3 : vs.toArray[i]? = none:=by
     have : xs.length ≤ i:=List.getElem?_eq_none_iff.mp e2
     rw [Array.getElem?_eq_none_iff]; simp; rw [← a3.length]; exact this
    refine enum_end hh h1 h2 a2 e3 fun h' ⟨k1,k2⟩=>?_
    obtain ⟨x1,x2⟩:=tch (fun b=>b = it) _ (s.toks) (fun b e=>e ▸ h6) (fun b o e q=>k1 b o e q) (fun b e=>e ▸ k2) (fun b e=>e ▸ flds_at h2)
    exact hend _ (by rw [en,e2]; rfl) x1 x2 fun b o e q=>k1 b o e fun w=>q (w ▸ h6)
   | some u=>
    refine ex1_2 (a3.get e2) fun cu e3 vu=>?_
    refine wpAny_pyNext_enum_item h1 h2 a2 (by simpa using e3) h4 fun h' k1 k2 k3 k4 k5=>?_
    obtain ⟨x1,x2⟩:=tch (fun b=>b = e ∨ b = it) _ (s.toks + 1) (fun b q=>by rcases q with q | q <;> subst q <;> assumption) (fun b o w q=>k5 b o (fun z=>q (.inl z)) (fun z=>q (.inr z)) w)
     (fun b q=>by
      rcases q with q | q
      ·subst q; exact in2_3 _ _ k1 rfl (by simp)
      ·subst q; exact iter_flds k2)
     (fun b q=>by
      rcases q with q | q
      ·subst q; exact in2_2 _ _ h1 rfl
      ·subst q; exact flds_at h2)
    exact htwo _ a i u cu e it _ s.toks rfl rfl (by rw [en,e2]; rfl) x1 x2 (fun b o w q=>k5 b o (fun z=>q (z ▸ h5)) (fun z=>q (z ▸ h6)) w) vu k1 k2 h3 h4 h5 h6 k3 (get_size_none _)
end
section
variable {C : Cx} {A : Around} {fl : Option Addr} {φ : Nat→Addr} {H : List O} {s : Shared} {l : List Env} {d : Nat}
variable {n : Nat} {cdv : Value} {sc : Scope} {cs : List Nat} {ρ : Lo} {env : Env}
theorem loc_touch {L : Addr} {m m' : Str→Option Value} {h' : Heap} {tk : Nat} (r : Rel C φ H s.heap) (hn : s.heap.Ns L m) (hF : Free C L) (hu : ∀ k,k < H.length→φ k ≠ L) (hs : Heap.SameBut L s.heap h') (hn' : h'.Ns L m') :
  ExtL C L φ H s φ H { s with heap:=h',toks:=tk }∧Rel C φ H h':=by
 have hc : ∀ cd,CodeAt s.heap cd→CodeAt h' cd:=fun cd z=>ex3_3 z fun o vs y q1 q2 q3=>by
  refine in3_3 o vs y ((hs.2 cd fun q=>?_).trans q1) q2 q3
  subst q
  (refine ex3_3 hn fun o' es ep w1 w2 _=>?_; clear hn)
  rw [q1] at w1; cases w1
  rw [q2] at w2; cases w2
 refine ⟨⟨Nat.le_refl _,fun _ _=>rfl,fun k h1 h2=>absurd h2 (Nat.not_lt.mpr h1),fun b o e _ _ h3=>⟨o.slots,(hs.2 b h3).trans e,fun _=>rfl⟩,fun b o e=>?_,rfl,rfl⟩,fun k o e=>?_,r.inj,r.new,fun b o e=>(hs.2 b fun q=>?_).trans (r.base b o e),fun P hP=>?_⟩
 ·by_cases q : b = L
  ·subst q
   (refine ex3_2 hn' fun o' _ _ w _=>?_; clear hn')
   exact ⟨o',w⟩
  ·exact ⟨o,(hs.2 b q).trans e⟩
 ·refine ex1_2 (r.obj k o e) fun ob h1 h2=>?_
  have hm : k < H.length:=(List.getElem?_eq_some_iff.mp e).1
  exact in1_2 ob ((hs.2 _ (hu k hm)).trans h1) (h2.mono (fun _ _=>rfl) (Nat.le_refl _) fun cd u v=>⟨hc cd u,v⟩)
 ·rw [q,hF.1] at e; injection e
 ·refine ex1_3 (r.tabs P hP) fun ps h1 h2 h3=>?_
  refine in1_3 ps ((hs.2 P fun q=>hF.2 (q ▸ hP)).trans h1) h2 (fun pos c e=>?_)
  refine ex1_3 (h3 pos c e) fun cd a1 a3 a4=>?_
  exact in1_3 cd a1 a3 (hc cd a4)
theorem EnvOk.store {m' : Str→Option Value} {h' : Heap} {ρ' : Lo} {h : Heap} {N : Nat} (k : EnvOk C φ N cdv sc cs ρ h env) (hn : h'.Ns env.locals m') (hl : LocR C φ N (localNames sc) ρ' m') : EnvOk C φ N cdv sc cs ρ' h' env:=
 ⟨k.kind,k.glo,k.bui,k.cod,k.loc,k.cel,k.own,k.gim,k.fr,⟨m',hn,hl⟩,k.low,k.off⟩
theorem St.loc {m' : Str→Option Value} {h' : Heap} {ρ' : Lo} {tk : Nat} (X : St C A l n φ H s cdv sc cs ρ env) (hs : Heap.SameBut env.locals s.heap h') (hn : h'.Ns env.locals m') (hl : LocR C φ H.length (localNames sc) ρ' m') :
  ExtL C env.locals φ H s φ H { s with heap:=h',toks:=tk }∧St C A l n φ H { s with heap:=h',toks:=tk } cdv sc cs ρ' env:=by
 refine ex1_2 X.en.ns fun m h1 h2=>?_
 obtain ⟨x,r⟩:=loc_touch (tk:=tk) X.r h1 X.en.low X.en.off hs hn
 exact ⟨x,X.rd,r,X.st.extL x hn,X.en.store hn hl⟩
theorem p_bindLoc {x : Nat} {nm : Str} {v : V} {cv : Value} {Q : Unit→Shared→Prop} {E : Value→Shared→Prop} (X : St C A l n φ H s cdv sc cs ρ env) (nd : (localNames sc).Nodup) (h1 : (localNames sc)[x]? = some nm) (hv : VR C φ H.length v cv)
  (h : ∀ s',ExtL C env.locals φ H s φ H s'→St C A l n φ H s' cdv sc cs (ρ.set x (some v)) env→Q () s') : wpAny (model C.prog C.w) A (PySem.bindName env nm cv) Q E s:=by
 refine ex1_2 X.en.ns fun m hn hr=>?_
 refine wpAny_bindName (wpAny_storeName_local (X.en.loc x nm h1) hn (fun h' hn' hs'=>?_) (by rw [X.en.kind]; rfl))
 obtain ⟨x1,x2⟩:=X.loc (tk:=s.toks + 1) hs' hn' (hr.put nd h1 hv)
 exact h _ x1 x2
theorem p_bindCel {x m : Nat} {nm : Str} {v : V} {cv : Value} {v₀ : Option V} {Q : Unit→Shared→Prop} {E : Value→Shared→Prop} (X : St C A l n φ H s cdv sc cs ρ env) (h1 : (celNames sc)[x]? = some nm) (hk : env.kindOf nm = some .cell) (hm : cs[x]? = some m) (e : H[m]? = some (.cell v₀)) (hv : VR C φ H.length v cv)
  (h : ∀ s',Ext C φ H s φ (H.set m (.cell (some v))) s'→Rel C φ (H.set m (.cell (some v))) s'.heap→Q () s') : wpAny (model C.prog C.w) A (PySem.bindName env nm cv) Q E s:=by
 obtain ⟨_,m',q1,q2,q3⟩:=X.en.cel x nm h1
 rw [hm] at q1
 cases q1
 refine ex1_2 (cell_at X.r e) fun c0 i1 i2=>?_
 refine wpAny_bindName (wpAny_storeName_cell X.en.kind hk q3 i1 fun h' hc hs=>?_)
 (refine ex1_2 hc fun ob w1 w2=>?_; clear hc)
 have hos : OS C φ H.length h' (.cell (some v)) ob:=by
  obtain ⟨cl,dd,dat,sl⟩:=ob
  subst w2
  exact .cell hv
 obtain ⟨x1,x2⟩:=Rel.upd (tk:=s.toks) X.r q2 hs w1 hos
 exact h _ x1 x2
end
section
variable {C : Cx} {A : Around} {fl : Option Addr} {φ : Nat→Addr} {H : List O} {s : Shared} {l : List Env} {d : Nat}
variable {n : Nat} {cdv : Value} {sc : Scope} {cs : List Nat} {ρ : Lo} {env : Env}
inductive TrT (C : Cx) (cdv : Value) (sc : Scope) : T→Expr→Prop
 | loc {x : Nat} {nm : Str} {p} : (localNames sc)[x]? = some nm→TrT C cdv sc (.loc x) (.Name nm p)
 | cel {x : Nat} {nm : Str} {p} : (celNames sc)[x]? = some nm→(nm,PySem.NameKind.cell) ∈ sc.names→TrT C cdv sc (.cel x) (.Name nm p)
 | attr {o m po p} : TrE C cdv sc o po→TrT C cdv sc (.attr o m) (.Attribute po (C.an m) p)
 | sub {o i po pi p} : TrE C cdv sc o po→TrE C cdv sc i pi→notSlice pi = true→TrT C cdv sc (.sub o i) (.Subscript po pi p)
inductive OkA (C : Cx) (cdv : Value) (sc : Scope) (cs : List Nat) (env : Env) (φ : Nat→Addr) (H : List O) (s : Shared) (res : Res Lo) (s' : Shared) : Prop
 | mk (ρ' : Lo) (H' : List O) (φ' : Nat→Addr) (q : res = .ok ρ' H') (x : ExtL C env.locals φ H s φ' H' s') (r : Rel C φ' H' s'.heap) (z : EnvOk C φ' H'.length cdv sc cs ρ' s'.heap env) : OkA C cdv sc cs env φ H s res s'
noncomputable def SimA (C : Cx) (A : Around) (cdv : Value) (sc : Scope) (cs : List Nat) (env : Env) (m : M Lo) (t : Sem Unit) (φ : Nat→Addr) (H : List O) (s : Shared) : Prop:=
 m H ≠ .stuck→wpAny (model C.prog C.w) A t
  (fun _=>OkA C cdv sc cs env φ H s (m H)) (ErB C env.frame env.locals φ H s (m H)) s
theorem wpAny_rel {M : PySem.Model} {vs keep : List Value} {Q : Unit→Shared→Prop} {E : Value→Shared→Prop} (h : Q () s) : wpAny M A (PySem.release vs keep) Q E s:=fun Γ p hΓ=>by
 rw [PySem.Sem.wp_release]; exact h
theorem EnvOk.some {φ' : Nat→Addr} {N : Nat} {h : Heap} (k : EnvOk C φ' N cdv sc cs ρ h env) : ∃ mm,h.Ns env.locals mm:=let ⟨m,h,_⟩:=k.ns; ⟨m,h⟩
noncomputable def celPut (m : Nat) (v : V) : O→M Unit
 | .cell _=>setO m (.cell (some v))
 | _=>Mp.stuck
theorem p_asg {t : T} {pt : Expr} {v : V} {cv : Value} (G : Good C) (XS : ExcSet C) (XS0 : ExcSet0 C) (E0 : SndE C n) (X : St C A l n φ H s cdv sc cs ρ env) (nd : (localNames sc).Nodup) (h : TrT C cdv sc t pt) (hv : VR C φ H.length v cv) :
  SimA C A cdv sc cs env (asgM methT (ev n) cs ρ v t) (PySem.assign pt env cv) φ H s:=by
 intro hne
 induction h with
 | @loc x nm p h1=>
  have hne : (if x < ρ.length then (Pure.pure (ρ.set x (some v)) : M Lo) else Mp.stuck) H ≠ .stuck:=hne
  by_cases hx : x < ρ.length
  ·refine wpAny_bind (wpAny_standAt (p_bindLoc X nd h1 hv fun s' x1 X1=>⟨_,H,φ,?_,x1,X1.r,X1.en⟩))
   refine (?_ : (if x < ρ.length then (Pure.pure (ρ.set x (some v)) : M Lo) else Mp.stuck) H = _)
   rw [if_pos hx]; rfl
  ·rw [if_neg hx] at hne; exact absurd rfl hne
 | @cel x nm p h1 h2=>
  have hne : (setC cs x v >>= fun _=>(Pure.pure ρ : M Lo)) H ≠ .stuck:=hne
  obtain ⟨_,m,q1,q2,q3⟩:=X.en.cel x nm h1
  induction e : H[m]? using Option.casesOn with
  | none=>exact absurd (bind_stuck (by unfold setC; rw [q1]; exact bind_stuck (by unfold getO; rw [e]))) hne
  | some o=>
   have es : setC cs x v H = celPut m v o H:=by
    unfold setC; rw [q1]; exact bind_at (f:=celPut m v) (getO_eq e)
   induction o <;> try exact absurd (bind_stuck es) hne
   rename_i v₀
   refine wpAny_bind (wpAny_standAt (p_bindCel X h1 (X.en.own nm h2) q1 e hv fun s' x1 r1=>⟨ρ,_,φ,?_,x1.loose,r1,X.en.ext x1⟩))
   refine (?_ : (setC cs x v >>= fun _=>(Pure.pure ρ : M Lo)) H = _)
   rw [bind_at (show setC cs x v H = .ok () _ from es)]; rfl
 | @attr o m po p ho=>
  have hne : ((ev n).e cs ρ o >>= fun x=>setA methT x m v >>= fun _=>(Pure.pure ρ : M Lo)) H ≠ .stuck:=hne
  have key : Sim C A env.frame (fun _ _ _ a c=>a = ρ) ((ev n).e cs ρ o >>= fun x=>setA methT x m v >>= fun _=>(Pure.pure ρ : M Lo)) (PySem.assign (.Attribute po (C.an m) p) env cv) φ H s:=by
   refine (?_ : Sim C A env.frame _ _ (holding [cv] (eval po env) >>= fun ov=>standAt p.atName >>= fun _=>holding [cv,ov] (setAttr ov (C.an m) cv) >>= fun _=>PySem.release [cv,ov] []) φ H s)
   refine Sim.bind (Sim.holding (E0 X ho)) fun x cx H₁ φ₁ s₁ q1 x1 r1 v1=>Sim.standAt ?_
   refine Sim.bind (Sim.holding (p_setA G XS XS0 v1 (hv.mono x1.phi x1.len) r1)) fun _ _ H₂ φ₂ s₂ q2 x2 r2 _=>?_
   exact fun _=>wpAny_rel ⟨ρ,H₂,φ₂,rfl,.refl ..,r2,rfl⟩
  refine wpAny_mono (key hne) ?_ ?_
  ·rintro _ s' ⟨a,H',φ',q,x,r,rfl⟩
   exact ⟨_,H',φ',q,x.loose,r,X.en.ext x⟩
  ·rintro ce s' ⟨k,H',φ',q,x,r,z⟩
   exact ⟨k,H',φ',q,x.loose,r,z,(X.en.ext x).some⟩
 | @sub o i po pi p ho hi hs=>
  have hne : ((ev n).e cs ρ o >>= fun x=>(ev n).e cs ρ i >>= fun y=>setI x y v >>= fun _=>(Pure.pure ρ : M Lo)) H ≠ .stuck:=hne
  have e0 : PySem.assign (.Subscript po pi p) env cv = (holding [cv] (eval po env) >>= fun ov=>holding [cv,ov] (eval pi env) >>= fun iv=>standAt p >>= fun _=>holding [cv,ov,iv] (setItem ov iv cv) >>= fun _=>PySem.release [cv,ov,iv] []):=by
   induction pi using Expr.casesOn <;> first | rfl | cases hs
  have key : Sim C A env.frame (fun _ _ _ a c=>a = ρ) ((ev n).e cs ρ o >>= fun x=>(ev n).e cs ρ i >>= fun y=>setI x y v >>= fun _=>(Pure.pure ρ : M Lo)) (PySem.assign (.Subscript po pi p) env cv) φ H s:=by
   rw [e0]
   refine Sim.bind (Sim.holding (E0 X ho)) fun x cx H₁ φ₁ s₁ q1 x1 r1 v1=>?_
   refine Sim.bind (Sim.holding (E0 (X.ext x1 r1) hi)) fun y cy H₂ φ₂ s₂ q2 x2 r2 v2=>Sim.standAt ?_
   have x12:=x1.trans x2
   refine Sim.bind (Sim.holding (p_setI (v1.mono x2.phi x2.len) v2 (hv.mono x12.phi x12.len) r2)) fun _ _ H₃ φ₃ s₃ q3 x3 r3 _=>?_
   exact fun _=>wpAny_rel ⟨ρ,H₃,φ₃,rfl,.refl ..,r3,rfl⟩
  refine wpAny_mono (key hne) ?_ ?_
  ·rintro _ s' ⟨a,H',φ',q,x,r,rfl⟩
   exact ⟨_,H',φ',q,x.loose,r,X.en.ext x⟩
  ·rintro ce s' ⟨k,H',φ',q,x,r,z⟩
   exact ⟨k,H',φ',q,x.loose,r,z,(X.en.ext x).some⟩
end
section
variable {C : Cx} {A : Around} {fl : Option Addr} {φ : Nat→Addr} {H : List O} {s : Shared} {l : List Env} {d : Nat}
variable {n : Nat} {cdv : Value} {sc : Scope} {cs : List Nat} {ρ : Lo} {env : Env}
inductive OkF (C : Cx) (cdv : Value) (sc : Scope) (cs : List Nat) (env : Env) (φ : Nat→Addr) (H : List O) (s : Shared) (res : Res (Fl × Lo)) (f : PySem.Flow) (s' : Shared) : Prop
 | mk (a : Fl) (ρ' : Lo) (H' : List O) (φ' : Nat→Addr) (q : res = .ok (a,ρ') H') (x : ExtL C env.locals φ H s φ' H' s') (r : Rel C φ' H' s'.heap) (z : EnvOk C φ' H'.length cdv sc cs ρ' s'.heap env) (w : FlR C φ' H'.length a f) : OkF C cdv sc cs env φ H s res f s'
noncomputable def SimF (C : Cx) (A : Around) (cdv : Value) (sc : Scope) (cs : List Nat) (env : Env) (m : M (Fl × Lo)) (t : Sem PySem.Flow) (φ : Nat→Addr) (H : List O) (s : Shared) : Prop:=
 m H ≠ .stuck→wpAny (model C.prog C.w) A t
  (OkF C cdv sc cs env φ H s (m H)) (ErB C env.frame env.locals φ H s (m H)) s
theorem SimF.simS {m : M (Fl × Lo)} {t : Sem PySem.Flow} (h : SimF C A cdv sc cs env m t φ H s) : SimS C A env.frame env.locals (localNames sc) m t φ H s:=fun hne=>
 wpAny_mono (h hne) (fun f s' ⟨a,ρ',H',φ',q,x,r,e,z⟩=>⟨a,ρ',H',φ',q,x,r,z,e.ns⟩) fun _ _ z=>z
theorem St.extL {φ' : Nat→Addr} {H' : List O} {s' : Shared} {ρ' : Lo} (X : St C A l n φ H s cdv sc cs ρ env) (x : ExtL C env.locals φ H s φ' H' s') (r : Rel C φ' H' s'.heap) (e : EnvOk C φ' H'.length cdv sc cs ρ' s'.heap env) : St C A l n φ' H' s' cdv sc cs ρ' env:=by
 obtain ⟨mm,hn⟩:=e.some
 exact ⟨X.rd,r,X.st.extL x hn,e⟩
section
variable {α γ : Type} {R : (Nat→Addr)→Nat→Heap→α→γ→Prop} {m : M α} {f : α→M (Fl × Lo)} {t : Sem γ} {k : γ→Sem PySem.Flow}
theorem SimF.bindE (X : St C A l n φ H s cdv sc cs ρ env) (h1 : Sim C A env.frame R m t φ H s)
  (h2 : ∀ a c H₁ φ₁ s₁,m H = .ok a H₁→Ext C φ H s φ₁ H₁ s₁→Rel C φ₁ H₁ s₁.heap→R φ₁ H₁.length s₁.heap a c→SimF C A cdv sc cs env (f a) (k c) φ₁ H₁ s₁) : SimF C A cdv sc cs env (m >>= f) (t >>= k) φ H s:=by
 intro hne
 refine wpAny_bind (wpAny_mono (h1 fun z=>hne (bind_stuck z)) ?_ ?_)
 ·rintro c s₁ ⟨a,H₁,φ₁,q,x,r,z⟩
  rw [bind_at q] at hne ⊢
  refine wpAny_mono (h2 a c H₁ φ₁ s₁ q x r z hne) ?_ ?_
  ·rintro c' s₂ ⟨b,ρ',H₂,φ₂,q₂,x₂,r₂,e₂,z₂⟩
   exact ⟨b,ρ',H₂,φ₂,q₂,x.loose.trans x₂,r₂,e₂,z₂⟩
  ·rintro ce s₂ ⟨b,H₂,φ₂,q₂,x₂,r₂,z₂,e₂⟩
   exact ⟨b,H₂,φ₂,q₂,x.loose.trans x₂,r₂,z₂.old x.live,e₂⟩
 ·rintro ce s₁ ⟨b,H₁,φ₁,q,x,r,z⟩
  exact ⟨b,H₁,φ₁,bind_err q,x.loose,r,z,(X.en.ext x).some⟩
end
section
variable {m : M Lo} {f : Lo→M (Fl × Lo)} {t : Sem Unit} {k : Unit→Sem PySem.Flow}
theorem SimF.bindA (h1 : SimA C A cdv sc cs env m t φ H s)
  (h2 : ∀ ρ' H₁ φ₁ s₁,m H = .ok ρ' H₁→ExtL C env.locals φ H s φ₁ H₁ s₁→Rel C φ₁ H₁ s₁.heap→EnvOk C φ₁ H₁.length cdv sc cs ρ' s₁.heap env→SimF C A cdv sc cs env (f ρ') (k ()) φ₁ H₁ s₁) : SimF C A cdv sc cs env (m >>= f) (t >>= k) φ H s:=by
 intro hne
 refine wpAny_bind (wpAny_mono (h1 fun z=>hne (bind_stuck z)) ?_ ?_)
 ·rintro c s₁ ⟨a,H₁,φ₁,q,x,r,z⟩
  rw [bind_at q] at hne ⊢
  refine wpAny_mono (h2 a H₁ φ₁ s₁ q x r z hne) ?_ ?_
  ·rintro c' s₂ ⟨b,ρ',H₂,φ₂,q₂,x₂,r₂,e₂,z₂⟩
   exact ⟨b,ρ',H₂,φ₂,q₂,x.trans x₂,r₂,e₂,z₂⟩
  ·rintro ce s₂ ⟨b,H₂,φ₂,q₂,x₂,r₂,z₂,e₂⟩
   exact ⟨b,H₂,φ₂,q₂,x.trans x₂,r₂,z₂.old x.live,e₂⟩
 ·rintro ce s₁ ⟨b,H₁,φ₁,q,x,r,z,e⟩
  exact ⟨b,H₁,φ₁,bind_err q,x,r,z,e⟩
end
theorem SimF.bindF {m : M (Fl × Lo)} {f : Fl × Lo→M (Fl × Lo)} {t : Sem PySem.Flow} {k : PySem.Flow→Sem PySem.Flow} (h1 : SimF C A cdv sc cs env m t φ H s)
  (h2 : ∀ a ρ' c H₁ φ₁ s₁,m H = .ok (a,ρ') H₁→ExtL C env.locals φ H s φ₁ H₁ s₁→Rel C φ₁ H₁ s₁.heap→EnvOk C φ₁ H₁.length cdv sc cs ρ' s₁.heap env→FlR C φ₁ H₁.length a c→SimF C A cdv sc cs env (f (a,ρ')) (k c) φ₁ H₁ s₁) : SimF C A cdv sc cs env (m >>= f) (t >>= k) φ H s:=by
 intro hne
 refine wpAny_bind (wpAny_mono (h1 fun z=>hne (bind_stuck z)) ?_ ?_)
 ·rintro c s₁ ⟨a,ρ',H₁,φ₁,q,x,r,e,z⟩
  rw [bind_at q] at hne ⊢
  refine wpAny_mono (h2 a ρ' c H₁ φ₁ s₁ q x r e z hne) ?_ ?_
  ·rintro c' s₂ ⟨b,ρ',H₂,φ₂,q₂,x₂,r₂,e₂,z₂⟩
   exact ⟨b,ρ',H₂,φ₂,q₂,x.trans x₂,r₂,e₂,z₂⟩
  ·rintro ce s₂ ⟨b,H₂,φ₂,q₂,x₂,r₂,z₂,e₂⟩
   exact ⟨b,H₂,φ₂,q₂,x.trans x₂,r₂,z₂.old x.live,e₂⟩
 ·rintro ce s₁ ⟨b,H₁,φ₁,q,x,r,z,e⟩
  exact ⟨b,H₁,φ₁,bind_err q,x,r,z,e⟩
theorem SimF.pure {a : Fl} {c : PySem.Flow} (X : St C A l n φ H s cdv sc cs ρ env) (z : FlR C φ H.length a c) : SimF C A cdv sc cs env (Pure.pure (a,ρ)) (Pure.pure c) φ H s:=
 fun _=>wpAny_pure ⟨a,ρ,H,φ,rfl,.refl,X.r,X.en,z⟩
theorem SimF.standAt {m : M (Fl × Lo)} {t : Sem PySem.Flow} {p : Pos} (h : SimF C A cdv sc cs env m t φ H s) : SimF C A cdv sc cs env m (PySem.standAt p >>= fun _=>t) φ H s:=fun hne=>wpAny_bind (wpAny_standAt (h hne))
theorem SimF.stuck {t : Sem PySem.Flow} : SimF C A cdv sc cs env Mp.stuck t φ H s:=fun q=>absurd rfl q
end
section
variable {C : Cx} {A : Around} {fl : Option Addr} {φ : Nat→Addr} {H : List O} {s : Shared} {l : List Env} {d : Nat}
variable {n : Nat} {cdv : Value} {sc : Scope} {cs : List Nat} {ρ : Lo} {env : Env}
noncomputable def notTup (e : Expr) : Bool:=!(Nat.beq e.ctorIdx 25 || Nat.beq e.ctorIdx 24)
theorem swaps_none {e : Expr} {t : Option Expr} {k : Nat} (h : notComp e = true) : PySem.swapsWith e t k env = pure false:=by
 induction e using Expr.casesOn <;> first | rfl | cases h
theorem swaps_cell {e : Expr} {nm : Str} {p : Pos} {k : Nat} (h : env.kindOf nm = some .cell) : PySem.swapsWith e (some (.Name nm p)) k env = pure false:=by
 induction e using Expr.casesOn <;> try rfl
 all_goals
  unfold PySem.swapsWith
  have hq : (PySem.NameKind.cell == PySem.NameKind.local) = false:=by decide
  simp [h,hq]
theorem stores_none {e pt : Expr} (h : notTup pt = true) : PySem.swappedStores [pt] e env = pure none:=by
 induction pt using Expr.casesOn <;> first | rfl | cases h
theorem s_ex {e : E} {pe : Expr} {p : Pos} (E0 : SndE C n) (X : St C A l n φ H s cdv sc cs ρ env) (h : TrE C cdv sc e pe) (hc : notComp pe = true) :
  SimF C A cdv sc cs env ((ev n).e cs ρ e >>= fun _=>Pure.pure (.nxt,ρ)) (exec (.Expr pe p) env) φ H s:=by
 have hi : PySem.interactive env = false:=by
  unfold PySem.interactive
  rw [X.en.kind]; rfl
 rw [exec_Expr env pe p hi (swaps_none hc)]
 refine SimF.standAt (SimF.bindE X (E0 X h) fun v c H₁ φ₁ s₁ q1 x1 r1 v1=>?_)
 have X1:=X.ext x1 r1
 exact fun _=>wpAny_dropValue ⟨.nxt,ρ,H₁,φ₁,rfl,.refl,r1,X1.en,trivial⟩
theorem s_asg {e : E} {t : T} {pe pt : Expr} {p : Pos} (G : Good C) (XS : ExcSet C) (XS0 : ExcSet0 C) (E0 : SndE C n) (X : St C A l n φ H s cdv sc cs ρ env) (nd : (localNames sc).Nodup) (h : TrE C cdv sc e pe) (ht : TrT C cdv sc t pt) (hc : notComp pe = true ∨ ∃ x,t = .cel x) :
  SimF C A cdv sc cs env ((ev n).e cs ρ e >>= fun v=>asgM methT (ev n) cs ρ v t >>= fun ρ'=>Pure.pure (.nxt,ρ')) (exec (.Assign [pt] pe p) env) φ H s:=by
 have hs : PySem.swapsWithSole [pt] pe p.line env = pure false:=by
  refine (?_ : PySem.swapsWith pe (some pt) p.line env = pure false)
  rcases hc with hc | ⟨x,rfl⟩
  ·exact swaps_none hc
  ·cases ht with
   | cel h1 h2=>exact swaps_cell (X.en.own _ h2)
 have hn : PySem.swappedStores [pt] pe env = pure none:=stores_none (by induction ht <;> rfl)
 have e1 : ((PySem.assignEach [pt] env).map (·.2)) = [PySem.assign pt env]:=by induction ht <;> rfl
 rw [arm_exec_Assign,hs,hn,e1]
 refine SimF.standAt ?_
 rw [pure_bind,if_neg (by simp)]
 refine SimF.bindE X (E0 X h) fun v c H₁ φ₁ s₁ q1 x1 r1 v1=>?_
 rw [pure_bind]
 have X1:=X.ext x1 r1
 refine (?_ : SimF C A cdv sc cs env _ (PySem.assign pt env c >>= fun _=>pure .next) φ₁ H₁ s₁)
 exact SimF.bindA (p_asg G XS XS0 E0 X1 nd ht v1) fun ρ' H₂ φ₂ s₂ q2 x2 r2 e2=>SimF.pure (X1.extL x2 r2 e2) trivial
theorem s_augL {x : Nat} {nm : Str} {o : Bop} {e : E} {pe : Expr} {p p1 : Pos} (E0 : SndE C n) (X : St C A l n φ H s cdv sc cs ρ env) (nd : (localNames sc).Nodup) (h1 : (localNames sc)[x]? = some nm) (h : TrE C cdv sc e pe) :
  SimF C A cdv sc cs env (getL ρ x >>= fun a=>(ev n).e cs ρ e >>= fun b=>augM o a b >>= fun c=>if x < ρ.length then Pure.pure (.nxt,ρ.set x (some c)) else Mp.stuck) (exec (.AugAssign (.Name nm p1) (opOf o) pe p) env) φ H s:=by
 rw [arm_exec_AugAssign]
 refine SimF.standAt ?_
 have hl : Sim C A env.frame (VH C) (getL ρ x) (PySem.loadName env nm) φ H s:=by
  unfold getL
  split
  ·rename_i v e
   refine ex1_2 X.en.ns fun m hn hr=>?_
   refine ex1_2 (hr.2 x nm v h1 e) fun cv c1 c2=>?_
   exact Sim.val rfl c2 X.r fun Q E q=>wpAny_loadName_local X.en.kind (X.en.loc x nm h1) hn c1 q
  ·exact Sim.stuck
 refine SimF.bindE X hl fun a ca H₁ φ₁ s₁ q1 x1 r1 v1=>?_
 have X1:=X.ext x1 r1
 refine SimF.bindE X1 (Sim.holding (E0 X1 h)) fun b cb H₂ φ₂ s₂ q2 x2 r2 v2=>SimF.standAt ?_
 have X2:=X1.ext x2 r2
 refine SimF.bindE X2 (Sim.operate (p_inp (v1.mono x2.phi x2.len) v2 r2)) fun c cc H₃ φ₃ s₃ q3 x3 r3 v3=>SimF.standAt ?_
 have X3:=X2.ext x3 r3
 intro hne
 by_cases hx : x < ρ.length
 ·rw [if_pos hx]
  exact wpAny_bind (p_bindLoc X3 nd h1 v3 fun s' x4 X4=>wpAny_pure ⟨.nxt,_,H₃,φ₃,rfl,x4,X4.r,X4.en,trivial⟩)
 ·rw [if_neg hx] at hne; exact absurd rfl hne
theorem s_ret {e : E} {pe : Expr} {p : Pos} (E0 : SndE C n) (X : St C A l n φ H s cdv sc cs ρ env) (h : TrE C cdv sc e pe) :
  SimF C A cdv sc cs env ((ev n).e cs ρ e >>= fun v=>Pure.pure (.ret v,ρ)) (exec (.Return (some pe) p) env) φ H s:=by
 rw [exec_Return_some]
 exact SimF.standAt (SimF.bindE X (E0 X h) fun v c H₁ φ₁ s₁ q1 x1 r1 v1=>SimF.pure (X.ext x1 r1) v1)
end
section
variable {C : Cx} {A : Around} {fl : Option Addr} {φ : Nat→Addr} {H : List O} {s : Shared} {l : List Env} {d : Nat}
variable {n : Nat} {cdv : Value} {sc : Scope} {cs : List Nat} {ρ : Lo} {env : Env}
theorem m_assoc {α β γ : Type} (m : M α) (f : α→M β) (g : β→M γ) : ((m >>= f) >>= g) = (m >>= fun a=>f a >>= g):=by
 funext H
 induction e : m H with
 | stuck=>rw [bind_stuck e,bind_stuck (bind_stuck e)]
 | err k H'=>rw [bind_err e,bind_err (bind_err e)]
 | ok a H'=>
  rw [bind_at e]
  refine (?_ : M.bind (m >>= f) g H = M.bind (f a) g H')
  unfold M.bind
  rw [bind_at e]
theorem s_augA {b e : E} {m : Nat} {o : Bop} {pb pe : Expr} {p p1 : Pos} (G : Good C) (XG : ExcGet C) (XS : ExcSet C) (XS0 : ExcSet0 C) (E0 : SndE C n) (X : St C A l n φ H s cdv sc cs ρ env) (hb : TrE C cdv sc b pb) (h : TrE C cdv sc e pe) :
  SimF C A cdv sc cs env ((ev n).e cs ρ b >>= fun x=>getA methT x m >>= fun a=>(ev n).e cs ρ e >>= fun y=>augM o a y >>= fun c=>setA methT x m c >>= fun _=>Pure.pure (.nxt,ρ)) (exec (.AugAssign (.Attribute pb (C.an m) p1) (opOf o) pe p) env) φ H s:=by
 rw [arm_exec_AugAssign_2]
 refine SimF.standAt (SimF.bindE X (E0 X hb) fun x cx H₁ φ₁ s₁ q1 x1 r1 v1=>?_)
 have X1:=X.ext x1 r1
 have e0 : (getA methT x m >>= fun a=>(ev n).e cs ρ e >>= fun y=>augM o a y >>= fun c=>setA methT x m c >>= fun _=>(Pure.pure (.nxt,ρ) : M (Fl × Lo))) = ((getA methT x m >>= fun a=>(ev n).e cs ρ e >>= fun y=>augM o a y) >>= fun c=>setA methT x m c >>= fun _=>Pure.pure (.nxt,ρ)):=by
  rw [m_assoc]
  congr 1
  funext a
  rw [m_assoc]
 rw [e0]
 have hs : Sim C A env.frame (VH C) (getA methT x m >>= fun a=>(ev n).e cs ρ e >>= fun y=>augM o a y) (holding [cx] (PySem.standAt p1.atName >>= fun _=>getAttr cx (C.an m) true >>= fun old=>holding [old] (eval pe env) >>= fun v=>PySem.standAt p >>= fun _=>PySem.operate [old,v] (inplaceOp (opOf o) old v))) φ₁ H₁ s₁:=by
  refine Sim.holding (Sim.standAt (Sim.bind (p_getA G XG v1 r1 true) fun a ca H₂ φ₂ s₂ q2 x2 r2 v2=>?_))
  refine Sim.bind (Sim.holding (E0 (X1.ext x2 r2) h)) fun y cy H₃ φ₃ s₃ q3 x3 r3 v3=>Sim.standAt ?_
  exact Sim.operate (p_inp (v2.mono x3.phi x3.len) v3 r3)
 refine SimF.bindE X1 hs fun c cc H₂ φ₂ s₂ q2 x2 r2 v2=>SimF.standAt ?_
 have X2:=X1.ext x2 r2
 refine SimF.bindE X2 (Sim.holding (p_setA G XS XS0 (v1.mono x2.phi x2.len) v2 r2)) fun _ _ H₃ φ₃ s₃ q3 x3 r3 _=>?_
 exact fun _=>wpAny_bind (wpAny_rel (wpAny_pure ⟨.nxt,ρ,H₃,φ₃,rfl,.refl,r3,(X2.ext x3 r3).en,trivial⟩))
noncomputable def SndS (C : Cx) (n : Nat) (TrS : Value→Scope→S→Stmt→Prop) : Prop:=∀ {A : Around} {l : List Env} {φ : Nat→Addr} {H : List O} {s : Shared} {cdv : Value} {sc : Scope} {cs : List Nat} {ρ : Lo} {env : Env} {st : S} {ps : Stmt},
 St C A (env :: l) n φ H s cdv sc cs ρ env→(localNames sc).Nodup→TrS cdv sc st ps→SimF C A cdv sc cs env ((ev n).s cs ρ st) (exec ps env) φ H s
noncomputable def SndSs (C : Cx) (n : Nat) (TrS : Value→Scope→S→Stmt→Prop) : Prop:=∀ {A : Around} {l : List Env} {φ : Nat→Addr} {H : List O} {s : Shared} {cdv : Value} {sc : Scope} {cs : List Nat} {ρ : Lo} {env : Env} {ss : List S} {pss : List Stmt},
 St C A (env :: l) n φ H s cdv sc cs ρ env→(localNames sc).Nodup→All2 (TrS cdv sc) ss pss→SimF C A cdv sc cs env ((ev n).ss cs ρ ss) (execs pss env) φ H s
theorem snd_ss {TrS : Value→Scope→S→Stmt→Prop} (S0 : SndS C n TrS) (Ss : SndSs C n TrS) : SndSs C (n + 1) TrS:=by
 intro A l φ H s cdv sc cs ρ env ss pss X nd h
 induction h with
 | nil=>exact SimF.pure X trivial
 | @cons st ps ss pss h1 h2=>
  rw [execs_cons]
  refine (?_ : SimF C A cdv sc cs env ((ev n).s cs ρ st >>= fun p=>match p with | (f,ρ')=>match f with | .nxt=>(ev n).ss cs ρ' ss | f=>Pure.pure (f,ρ')) _ φ H s)
  refine SimF.bindF (S0 X.down nd h1) fun a ρ' c H₁ φ₁ s₁ q x r e z=>?_
  have X1:=X.extL x r e
  induction a <;> induction c <;> try exact z.elim
  ·exact Ss X1.down nd h2
  ·exact SimF.pure X1 trivial
  ·exact SimF.pure X1 z
theorem s_ite {TrS : Value→Scope→S→Stmt→Prop} {c : E} {a b : List S} {pc : Expr} {pa pb : List Stmt} {p : Pos} (T0 : SndT C n) (Ss : SndSs C n TrS) (X : St C A (env :: l) n φ H s cdv sc cs ρ env) (nd : (localNames sc).Nodup) (hc : TrE C cdv sc c pc) (ha : All2 (TrS cdv sc) a pa) (hb : All2 (TrS cdv sc) b pb) :
  SimF C A cdv sc cs env ((ev n).t cs ρ c >>= fun k=>if k then (ev n).ss cs ρ a else (ev n).ss cs ρ b) (exec (.If pc pa pb p) env) φ H s:=by
 rw [arm_exec_If]
 refine SimF.standAt (SimF.bindE X (T0 X hc) fun v c H₁ φ₁ s₁ q1 x1 r1 v1=>?_)
 have X1:=X.ext x1 r1
 subst v1
 induction v
 ·exact Ss X1 nd hb
 ·exact Ss X1 nd ha
end
section
variable {C : Cx} {A : Around} {fl : Option Addr} {φ : Nat→Addr} {H : List O} {s : Shared} {l : List Env} {d : Nat}
variable {n : Nat} {cdv : Value} {sc : Scope} {cs : List Nat} {ρ : Lo} {env : Env}
theorem Nr.extL {T K : Addr} {fr : List Addr} {h' : Heap} {n : Nat} {φ₀ : Nat→Addr} {H₀ : List O} {s₀ : Shared} (x : Nr (φ n) T fr s.heap h') (y : ExtL C K φ₀ H₀ s₀ φ H s) (hn : n < H.length) (hT : s₀.heap.get? T = none)
  (he : ∃ o vs,s.heap.get? (φ n) = some o∧o.data = .fields vs) (hTf : ∀ o,s.heap.get? T = some o→∃ vs,o.data = .fields vs) : ExtL C K φ₀ H₀ s₀ φ H { s with heap:=h' }:=by
 refine ⟨y.len,y.phi,y.fresh,fun b o q h1 h2 h3=>?_,fun b o q=>?_,y.gens,y.os⟩
 ·refine ex1_2 (y.keep b o q h1 h2 h3) fun sl z f1=>?_
  have hb : b ≠ T:=fun w=>by rw [w,hT] at q; injection q
  refine ex1_2 (x.slot b _ z (fun w=>y.off h1 q n hn w.symm) hb) fun sl' w f2=>?_
  exact in1_2 sl' w (fun h=>(f2 h).trans (f1 h))
 ·obtain ⟨o',z⟩:=y.live b o q
  by_cases w : b = φ n
  ·subst w
   (refine ex2_2 he fun o vs k1 k2=>?_; clear he)
   refine ex2_2 (x.flds _ o vs k1 k2) fun _ _ k3 _=>?_
   exact ⟨_,k3⟩
  ·by_cases w' : b = T
   ·subst w'
    obtain ⟨vs,k2⟩:=hTf _ z
    refine ex2_2 (x.flds _ o' vs z k2) fun _ _ k3 _=>?_
    exact ⟨_,k3⟩
   ·refine ex1_2 (x.slot b o' z w w') fun sl k _=>?_
    exact ⟨_,k⟩
theorem back_ok {M : PySem.Model} {E : Value→Shared→Prop} {L K : Addr} {ce : Value} {n : Nat} {φ₀ : Nat→Addr} {H₀ : List O} {s₀ : Shared} {mm : Str→Option Value} (hA : A.frames = some (env :: l)) (hf : env.frame = some L)
  (x : ExtL C K φ₀ H₀ s₀ φ H s) (r : Rel C φ H s.heap) (k : StkOk C φ H.length (env :: l) s.heap) (e : ErrR C s₀.heap (some L) φ H n ce s.heap) (hns : s.heap.Ns K mm)
  (h : ∀ s',ExtL C K φ₀ H₀ s₀ φ H s'→Rel C φ H s'.heap→ErrR C s₀.heap (some L) φ H n ce s'.heap→s'.heap.Ns K mm→E ce s') : notedBy M A env (fun e s'=>cameBackBy M A env E e s') ce s:=by
 obtain ⟨rfl,⟨c,dd,hn⟩,oe,vs,a1,a2,a3⟩:=e
 have hlt : n < H.length:=(List.getElem?_eq_some_iff.mp hn).1
 have hfr : ∀ b,b ∈ (env :: l).filterMap (·.frame)→Free C b∧(∀ m,m < H.length→φ m ≠ b)∧∃ o,s.heap.get? b = some o∧∀ vs,o.data ≠ .fields vs:=fun b hb=>by
  refine ex1_2 (List.mem_filterMap.mp hb) fun e' q1 q2=>?_
  obtain ⟨_,L',o,q3,q4,q5,q6,q7⟩:=k e' q1
  rw [q3] at q2; cases q2
  exact ⟨q4,q5,o,q6,q7⟩
 have old1 : ∀ a,s.heap.get? a = none→s₀.heap.get? a = none:=fun a ha=>by
  induction w : s₀.heap.get? a using Option.casesOn with
  | none=>rfl
  | some o=>obtain ⟨o',w'⟩:=x.live _ o w; rw [ha] at w'; injection w'
 have old2 : ∀ a,s.heap.get? a = none→∀ m,m < H.length→φ m ≠ a:=fun a ha m hm w=>by
  obtain ⟨ob,w'⟩:=r.at hm
  rw [w,ha] at w'; injection w'
 have h1 : 1 < vs.size:=by
  rcases a3 with a3 | ⟨_,_,_,_,a3,_⟩ <;> exact (Array.getElem?_eq_some_iff.mp a3).1
 have fin : ∀ T,s₀.heap.get? T = none→Free C T→(∀ m,m < H.length→φ m ≠ T)→(∀ o,s.heap.get? T = some o→∃ vs,o.data = .fields vs)→∀ h',Nr (φ n) T ((env :: l).filterMap (·.frame)) s.heap h'→(∃ oe vs T oT ts,h'.get? (φ n) = some oe∧oe.data = .fields vs∧vs[1]? = some (.ref T)∧s₀.heap.get? T = none∧Free C T∧(∀ n,n < H.length→φ n ≠ T)∧h'.get? T = some oT∧oT.data = .fields ts∧ts[3]? = some (rawInt L))→E (.ref (φ n)) { s with heap:=h' }:=
  fun T t1 t2 t3 t4 h' N z=>ex5_9 z fun oe' vs' T' oT' ts' b1 b2 b3 b4 b5 b6 b7 b8 b9=>by
   refine h _ (N.extL x hlt t1 ⟨oe,vs,a1,a2⟩ t4) (N.rel r hn t2 t3 fun b hb=>⟨(hfr b hb).1,(hfr b hb).2.1⟩) ⟨rfl,⟨c,dd,hn⟩,oe',vs',b1,b2,.inr ⟨T',oT',ts',_,b3,b4,b5,b6,b7,b8,b9,.inr ⟨L,rfl,rfl⟩⟩⟩ ?_
   refine ns_slots (fun o q=>?_) hns
   have hd : ∀ vs,o.data ≠ .fields vs:=fun vs w=>by
    (refine ex3_3 hns fun o' es ep z1 z2 _=>?_; clear hns)
    rw [q] at z1; cases z1
    rw [w] at z2; cases z2
   refine ex1_2 (N.slot K o q (fun w=>by subst w; rw [a1] at q; cases q; exact hd _ a2) (fun w=>by subst w; obtain ⟨_,w'⟩:=t4 o q; exact hd _ w')) fun sl z _=>?_
   exact ⟨sl,z⟩
 have key : ∀ T g1 head b,s₀.heap.get? T = none→Free C T→(∀ m,m < H.length→φ m ≠ T)→(∀ o,s.heap.get? T = some o→∃ vs,o.data = .fields vs)→Nr (φ n) T ((env :: l).filterMap (·.frame)) s.heap g1→g1.get? (φ n) = some oe→(∀ b o,s.heap.get? b = some o→(∀ vs,o.data ≠ .fields vs)→g1.get? b = some o) →
   wpAny M A (do let a ← PySem.frameOf env; let pl ← PySem.entryPlaceOf L b; let x ← EntryCells.newEntry head a .none (rawInt L) .none pl; setField (.ref (φ n)) 1 x) (fun _ s'=>cameBackBy M A env E (.ref (φ n)) s') (fun e s'=>cameBackBy M A env E e s') { s with heap:=g1 }:=by
  intro T g1 head b t1 t2 t3 t4 N1 oe1 kp
  refine entry_ok (s:=s) hA hf (fun b hb=>?_) (k.fun.of_keeps fun b o hb hnf=>⟨o,kp b o hb hnf,rfl⟩) N1 oe1 a2 h1 t4 fun g3 T2 to ts N3 f1 f2 f3 f4 f5 f6=>?_
  ·obtain ⟨_,_,o,z1,z2⟩:=hfr b hb
   exact in1_2 o (kp b o z1 z2) z2
  ·unfold cameBackBy
   refine wpAny_bind (wpAny_field f3 rfl (x:=.ref T2) (by simp [h1]) ?_)
   rw [if_neg (show ¬ ((Value.ref T2 == Value.none) = true) from by simp)]
   unfold setFlight
   refine wpAny_bind (wpAny_field f3 rfl (x:=.ref T2) (by simp [h1]) ?_)
   rw [if_pos (show (Value.ref T2 != Value.none) = true from by simp),hf]
   refine wpAny_setField f4 f5 (Array.getElem?_eq_some_iff.mp f6).1 ?_
   have P4:=N3.field (i:=3) (v:=rawInt L) (a:=T2) f4 f5 (.inr (.inr f1))
   exact fin T t1 t2 t3 t4 _ P4.1 ⟨_,_,T2,_,_,(Heap.get?_update_other _ _ f2).trans f3,rfl,by simp [h1],old1 _ f1,r.free f1,old2 _ f1,P4.2,rfl,by simp [(Array.getElem?_eq_some_iff.mp f6).1]⟩
 unfold notedBy noteFrame
 simp only [hf]
 rcases a3 with a3 | ⟨T,oT,ts,f,a3,a4,a5,a6,a7,a8,a9,a10⟩
 ·refine wpAny_bind (wpAny_field a1 a2 a3 ?_)
  rw [if_neg (by decide)]
  have g0:=get_size_none s.heap
  exact key s.heap.objs.size s.heap _ _ (old1 _ g0) (r.free g0) (old2 _ g0) (fun o q=>by rw [g0] at q; injection q) (Nr.refl ..) a1 (fun b o q _=>q)
 ·have h3:=(Array.getElem?_eq_some_iff.mp a9).1
  have hTe : T ≠ φ n:=fun q=>a6 n hlt q.symm
  have t4 : ∀ o,s.heap.get? T = some o→∃ vs,o.data = .fields vs:=fun o q=>by rw [a7] at q; cases q; exact ⟨_,a8⟩
  refine wpAny_bind (wpAny_field a1 a2 a3 ?_)
  rw [if_pos (show (Value.ref T != Value.none) = true from by simp)]
  refine wpAny_bind (wpAny_field a7 a8 a9 ?_)
  rcases a10 with q | ⟨L',q1,q2⟩
  ·subst q
   rw [if_neg (show ¬ ((Value.none == rawInt L) = true) from by simp [rawInt])]
   refine wpAny_bind (wpAny_setField a7 a8 h3 ?_)
   have T1:=(Nr.refl (φ n) T ((env :: l).filterMap (·.frame)) s.heap).field (i:=3) (v:=.none) a7 a8 (.inr (.inl rfl))
   exact key T _ _ _ a4 a5 a6 t4 T1.1 ((Heap.get?_update_other _ _ hTe).trans a1) (fun b o hb hnf=>(Heap.get?_update_other _ _ (fun w=>by subst w; rw [a7] at hb; cases hb; exact hnf _ a8)).trans hb)
  ·cases q1
   rw [q2,if_pos (by simp)]
   refine wpAny_pure ?_
   unfold cameBackBy
   refine wpAny_bind (wpAny_field a1 a2 a3 ?_)
   rw [if_neg (show ¬ ((Value.ref T == Value.none) = true) from by simp)]
   unfold setFlight
   refine wpAny_bind (wpAny_field a1 a2 a3 ?_)
   rw [if_pos (show (Value.ref T != Value.none) = true from by simp),hf]
   refine wpAny_setField a7 a8 h3 ?_
   have T1:=(Nr.refl (φ n) T ((env :: l).filterMap (·.frame)) s.heap).field (i:=3) (v:=rawInt L) a7 a8 (.inr (.inl rfl))
   exact fin T a4 a5 a6 t4 _ T1.1 ⟨oe,vs,T,_,_,(Heap.get?_update_other _ _ hTe).trans a1,a2,a3,a4,a5,a6,T1.2,rfl,by simp [h3]⟩
end
section
variable {C : Cx} {A : Around} {fl : Option Addr} {φ : Nat→Addr} {H : List O} {s : Shared} {l : List Env} {d : Nat}
variable {n : Nat} {cdv : Value} {sc : Scope} {cs : List Nat} {ρ : Lo} {env : Env}
inductive Turn (C : Cx) (A : Around) (l : List Env) (cdv : Value) (sc : Scope) (cs : List Nat) (env : Env) (φ : Nat→Addr) (H : List O) (s : Shared) (res : Res (Fl × Lo)) (g : Nat→Lo→List O→Res (Fl × Lo)) (k : Nat) (s' : Shared) : Prop
 | mk (H' : List O) (φ' : Nat→Addr) (ρ' : Lo) (q : res = g k ρ' H') (x : ExtL C env.locals φ H s φ' H' s') (z : St C A (env :: l) k φ' H' s' cdv sc cs ρ' env) : Turn C A l cdv sc cs env φ H s res g k s'
theorem s_wh {TrS : Value→Scope→S→Stmt→Prop} {c : E} {b : List S} {pc : Expr} {pb : List Stmt} {p : Pos} (T0 : ∀ k,k < n→SndT C k) (Ss : ∀ k,k < n→SndSs C k TrS) (X : St C A (env :: l) n φ H s cdv sc cs ρ env) (nd : (localNames sc).Nodup) (hc : TrE C cdv sc c pc) (hb : All2 (TrS cdv sc) b pb) :
  SimF C A cdv sc cs env ((ev n).wh cs ρ c b) (exec (.While pc pb [] p) env) φ H s:=by
 intro hne
 obtain ⟨L,hL⟩:=X.en.fr
 refine wpAny_While (codeAny_whileLoop (fun k s'=>k ≤ n∧Turn C A l cdv sc cs env φ H s ((ev n).wh cs ρ c b H) (fun k ρ' H'=>(ev k).wh cs ρ' c b H') k s') ?_ n ⟨Nat.le_refl _,H,φ,ρ,rfl,.refl,X⟩)
 rintro k s₁ ⟨hk,H₁,φ₁,ρ₁,e1,x1,X1⟩
 induction k with
 | zero=>exact absurd e1 hne
 | succ k=>
  have hk' : k < n:=hk
  have e2 : (ev (k + 1)).wh cs ρ₁ c b H₁ = ((ev k).t cs ρ₁ c >>= fun v=>if v then ((ev k).ss cs ρ₁ b >>= fun q=>match q with
   | (f,ρ')=>match f with
    | .nxt=>(ev k).wh cs ρ' c b
    | .brk=>Pure.pure (.nxt,ρ')
    | .ret v=>Pure.pure (.ret v,ρ')) else Pure.pure (.nxt,ρ₁)) H₁:=rfl
  try dsimp only at e1
  rw [e2] at e1
  have Xd:=X1.down
  refine wpAny_mono (T0 k hk' Xd hc fun z=>hne (e1.trans (bind_stuck z))) ?_ ?_
  ·rintro v s₂ ⟨a,H₂,φ₂,q2,x2,r2,rfl⟩
   rw [bind_at q2] at e1
   have X2:=Xd.ext x2 r2
   have x12:=x1.trans x2.loose
   induction a with
   | false=>exact wpAny_execs_nil ⟨.nxt,ρ₁,H₂,φ₂,e1,x12,r2,X2.en,trivial⟩
   | true=>
    have e1 : (ev n).wh cs ρ c b H = ((ev k).ss cs ρ₁ b >>= fun q=>match q with
     | (f,ρ')=>match f with
      | .nxt=>(ev k).wh cs ρ' c b
      | .brk=>Pure.pure (.nxt,ρ')
      | .ret v=>Pure.pure (.ret v,ρ')) H₂:=e1
    refine wpAny_mono (Ss k hk' X2 nd hb fun z=>hne (e1.trans (bind_stuck z))) ?_ ?_
    ·rintro f s₃ ⟨a,ρ₃,H₃,φ₃,q3,x3,r3,en3,z3⟩
     rw [bind_at q3] at e1
     have X3:=X2.extL x3 r3 en3
     have x13:=x12.trans x3
     induction a <;> induction f <;> try exact z3.elim
     ·exact ⟨k,Nat.lt_succ_self _,Nat.le_of_lt hk',H₃,φ₃,ρ₃,e1,x13,X3⟩
     ·exact ⟨.nxt,ρ₃,H₃,φ₃,e1,x13,r3,en3,trivial⟩
     ·exact ⟨.ret _,ρ₃,H₃,φ₃,e1,x13,r3,en3,z3⟩
    ·rintro ce s₃ ⟨m,H₃,φ₃,q3,x3,r3,z3,mm,hn⟩
     have x13:=x12.trans x3
     rw [hL] at z3
     exact back_ok X.rd.fr hL x13 r3 (X2.st.extL x3 hn) (z3.old x12.live) hn fun s' y1 y2 y3 y4=>⟨m,H₃,φ₃,e1.trans (bind_err q3),y1,y2,by rw [hL]; exact y3,_,y4⟩
  ·rintro ce s₂ ⟨m,H₂,φ₂,q2,x2,r2,z2⟩
   have x12:=x1.trans x2.loose
   have X2:=(Xd.en.ext x2).some
   obtain ⟨mm,hn⟩:=X2
   rw [hL] at z2
   exact back_ok X.rd.fr hL x12 r2 (Xd.st.ext x2) (z2.old x1.live) hn fun s' y1 y2 y3 y4=>⟨m,H₂,φ₂,e1.trans (bind_err q2),y1,y2,by rw [hL]; exact y3,_,y4⟩
end
section
variable {C : Cx} {A : Around} {fl : Option Addr} {φ : Nat→Addr} {H : List O} {s : Shared} {l : List Env} {d : Nat}
variable {n : Nat} {cdv : Value} {sc : Scope} {cs : List Nat} {ρ : Lo} {env : Env}
theorem each_map {ts : List T} {pts : List Expr} (h : All2 (TrT C cdv sc) ts pts) : (PySem.assignEach pts env).map (·.2) = pts.map fun t=>PySem.assign t env:=by
 induction h with
 | nil=>rfl
 | cons a _ ih=>
  induction a <;> exact congrArg (_ :: ·) ih
theorem each_len {ts : List T} {pts : List Expr} (h : All2 (TrT C cdv sc) ts pts) : (PySem.assignEach pts env).length = pts.length:=by
 have:=congrArg List.length (each_map (env:=env) h)
 simpa using this
theorem each_star {ts : List T} {pts : List Expr} (h : All2 (TrT C cdv sc) ts pts) : (PySem.assignEach pts env).findIdx? (·.1) = none:=by
 rw [List.findIdx?_eq_none_iff]
 induction h with
 | nil=>intro x hx; cases hx
 | cons a _ ih=>
  intro x hx
  induction a <;> (rcases List.mem_cons.mp hx with e | hx <;> first | (subst e; rfl) | exact ih x hx)
theorem p_asgAll (G : Good C) (XS : ExcSet C) (XS0 : ExcSet0 C) (E0 : SndE C n) (nd : (localNames sc).Nodup) : ∀ {ts : List T} {pts : List Expr} {vs : List V} {cvs : List Value} {ρ : Lo} {φ : Nat→Addr} {H : List O} {s : Shared},
  St C A l n φ H s cdv sc cs ρ env→All2 (TrT C cdv sc) ts pts→All2 (VR C φ H.length) vs cvs→SimA C A cdv sc cs env (asgAll methT (ev n) cs ρ ts vs) (PySem.assignInOrder (pts.map fun t=>PySem.assign t env) cvs) φ H s
 | [],_,[],_,ρ,φ,H,s,X,h,hv=>by
  cases h
  cases hv
  exact fun _=>wpAny_pure ⟨ρ,H,φ,rfl,.refl,X.r,X.en⟩
 | [],_,_ :: _,_,ρ,φ,H,s,X,h,hv=>fun q=>absurd rfl q
 | _ :: _,_,[],_,ρ,φ,H,s,X,h,hv=>fun q=>absurd rfl q
 | t :: ts,_,v :: vs,_,ρ,φ,H,s,X,h,hv=>by
  cases h with
  | @cons _ pt _ pts h1 h2=>
  cases hv with
  | @cons _ cv _ cvs v1 v2=>
  intro hne
  have e0 : asgAll methT (ev n) cs ρ (t :: ts) (v :: vs) = (asgM methT (ev n) cs ρ v t >>= fun ρ'=>asgAll methT (ev n) cs ρ' ts vs):=rfl
  rw [e0] at hne ⊢
  refine (?_ : wpAny _ _ (holding cvs (PySem.assign pt env cv) >>= fun _=>PySem.assignInOrder (pts.map fun t=>PySem.assign t env) cvs) _ _ s)
  refine wpAny_bind (wpAny_holding (wpAny_mono (p_asg G XS XS0 E0 X nd h1 v1 fun z=>hne (bind_stuck z)) ?_ ?_))
  ·rintro _ s₁ ⟨ρ₁,H₁,φ₁,q1,x1,r1,en1⟩
   rw [bind_at q1] at hne ⊢
   have X1:=X.extL x1 r1 en1
   refine wpAny_mono (p_asgAll G XS XS0 E0 nd X1 h2 (v2.mono fun _ _ z=>z.mono x1.phi x1.len) hne) ?_ ?_
   ·rintro _ s₂ ⟨ρ₂,H₂,φ₂,q2,x2,r2,en2⟩
    exact ⟨ρ₂,H₂,φ₂,q2,x1.trans x2,r2,en2⟩
   ·rintro ce s₂ ⟨k,H₂,φ₂,q2,x2,r2,z2,w2⟩
    exact ⟨k,H₂,φ₂,q2,x1.trans x2,r2,z2.old x1.live,w2⟩
  ·rintro ce s₁ ⟨k,H₁,φ₁,q1,x1,r1,z1,w1⟩
   exact ⟨k,H₁,φ₁,bind_err q1,x1,r1,z1,w1⟩
theorem p_unpack {ts : List T} {pts : List Expr} {vs : List V} {cvs : List Value} {T0 : Addr} {kk : Nat} {p : Pos} (G : Good C) (XS : ExcSet C) (XS0 : ExcSet0 C) (E0 : SndE C n) (nd : (localNames sc).Nodup) (X : St C A l n φ H s cdv sc cs ρ env) (h : All2 (TrT C cdv sc) ts pts) (hv : All2 (VR C φ H.length) vs cvs)
  (ht : s.heap.IsTuple T0 cvs.toArray) (hl : vs.length = ts.length) : SimA C A cdv sc cs env (asgAll methT (ev n) cs ρ ts vs) (PySem.assign (.Tuple pts kk p) env (.ref T0)) φ H s:=by
 intro hne
 refine wpAny_bind (wpAny_standAt (wpAny_unpack_tuple X.rd.han ht (by rw [each_len h,List.size_toArray,← h.length,← hl,hv.length]) (each_star h) fun h' g=>?_))
 have gr : ∀ b o,s.heap.get? b = some o→h'.get? b = some o:=fun b o e=>g b o (fun q=>by subst q; exact absurd (Heap.lt_size e) (Nat.lt_irrefl _)) e
 have x1 : Ext C φ H s φ H { s with heap:=h' }:=grow_ext (tk:=s.toks) gr
 rw [each_map h]
 refine wpAny_mono (p_asgAll G XS XS0 E0 nd (X.ext x1 (X.r.grow gr)) h hv hne) ?_ ?_
 ·rintro _ s₂ ⟨ρ₂,H₂,φ₂,q2,x2,r2,en2⟩
  exact ⟨ρ₂,H₂,φ₂,q2,x1.loose.trans x2,r2,en2⟩
 ·rintro ce s₂ ⟨k,H₂,φ₂,q2,x2,r2,z2,w2⟩
  exact ⟨k,H₂,φ₂,q2,x1.loose.trans x2,r2,z2.old x1.live,w2⟩
end
section
variable {C : Cx} {A : Around} {fl : Option Addr} {φ : Nat→Addr} {H : List O} {s : Shared} {l : List Env} {d : Nat}
variable {n : Nat} {cdv : Value} {sc : Scope} {cs : List Nat} {ρ : Lo} {env : Env}
theorem touchL {φ₀ : Nat→Addr} {H₀ : List O} {s₀ : Shared} {h' : Heap} {tk : Nat} (T : Addr→Prop) (x : ExtL C env.locals φ₀ H₀ s₀ φ H s) (X : St C A l n φ H s cdv sc cs ρ env) (hT : ∀ a,T a→OwnIt C s₀.heap φ H.length a∧∃ o vs,s.heap.get? a = some o∧o.data = .fields vs)
  (keep : ∀ b o,s.heap.get? b = some o→¬ T b→h'.get? b = some o) (flds : ∀ a,T a→∃ o vs,h'.get? a = some o∧o.data = .fields vs∧1 < vs.size) :
  ExtL C env.locals φ₀ H₀ s₀ φ H { s with heap:=h',toks:=tk }∧St C A l n φ H { s with heap:=h',toks:=tk } cdv sc cs ρ env:=by
 have live : ∀ b o,s.heap.get? b = some o→∃ o',h'.get? b = some o':=fun b o e=>by
  by_cases q : T b
  ·refine ex2_2 (flds b q) fun o' _ e' _=>?_; exact ⟨o',e'⟩
  ·exact ⟨o,keep b o e q⟩
 have hc : ∀ cd,CodeAt s.heap cd→CodeAt h' cd:=fun cd z=>ex3_3 z fun o vs y q1 q2 q3=>by
  by_cases q : T cd
  ·refine ex2_3 (flds cd q) fun o' vs' e1 e2 e3=>?_
   exact in3_3 o' vs' (vs'[1]) e1 e2 (Array.getElem?_eq_getElem e3)
  ·exact in3_3 o vs y (keep _ _ q1 q) q2 q3
 have r:=X.r
 have nonf : ∀ b o,s.heap.get? b = some o→(∀ vs,o.data ≠ .fields vs)→¬ T b:=fun b o e hn q=>by
  refine ex2_2 ((hT b q).2) fun o' vs w1 w2=>?_
  rw [e] at w1; cases w1; exact hn _ w2
 have r' : Rel C φ H h':=by
  refine ⟨fun m o e=>?_,r.inj,r.new,fun b o e=>keep b o (r.base b o e) (fun q=>by rw [(hT b q).1.2.1.1] at e; injection e),fun P hP=>?_⟩
  ·refine ex1_2 (r.obj m o e) fun ob h1 h2=>?_
   have hm : m < H.length:=(List.getElem?_eq_some_iff.mp e).1
   exact in1_2 ob (keep _ _ h1 fun q=>(hT _ q).1.2.2 m hm rfl) (h2.mono (fun _ _=>rfl) (Nat.le_refl _) fun cd u v=>⟨hc cd u,v⟩)
  ·refine ex1_3 (r.tabs P hP) fun ps h1 h2 h3=>?_
   refine in1_3 ps (keep _ _ h1 fun q=>(hT _ q).1.2.1.2 hP) h2 (fun pos c e=>?_)
   refine ex1_3 (h3 pos c e) fun cd a1 a3 a4=>?_
   exact in1_3 cd a1 a3 (hc cd a4)
 refine ⟨⟨x.len,x.phi,x.fresh,fun b o e h1 h2 h3=>?_,fun b o e=>?_,x.gens,x.os⟩,X.rd,r',fun e he=>?_,?_⟩
 ·refine ex1_2 (x.keep b o e h1 h2 h3) fun sl z f=>?_
  exact in1_2 sl (keep _ _ z (fun q=>by rw [(hT b q).1.1] at e; injection e)) f
 ·obtain ⟨o',z⟩:=x.live b o e
  exact live b o' z
 ·obtain ⟨h1,L,o,h2,h3,h4,h5,h6⟩:=X.st e he
  exact ⟨h1,L,o,h2,h3,h4,keep L o h5 (nonf L o h5 h6),h6⟩
 ·refine ex1_2 X.en.ns fun m hn hl=>?_
  refine X.en.store (m':=m) (ns_slots (fun o e=>⟨o.slots,keep _ o e (nonf _ o e fun vs w=>?_)⟩) hn) hl
  (refine ex3_3 hn fun o' es ep w1 w2 _=>?_; clear hn)
  rw [e] at w1; cases w1
  rw [w] at w2; cases w2
end
section
variable {C : Cx} {A : Around} {fl : Option Addr} {φ : Nat→Addr} {H : List O} {s : Shared} {l : List Env} {d : Nat}
variable {n : Nat} {cdv : Value} {sc : Scope} {cs : List Nat} {ρ : Lo} {env : Env}
section
variable {K : Addr} {φ' : Nat→Addr} {H' : List O} {s' : Shared} {h₀ : Heap}
theorem ExtL.recd (x : ExtL C K φ H s φ' H' s') (hK : ∀ o,s.heap.get? K = some o→∀ vs,o.data ≠ .fields vs) {a : Addr} {o : Obj} {vs : Array Value} (e : s.heap.get? a = some o) (hd : o.data = .fields vs) (h : OwnIt C h₀ φ H.length a) : s'.heap.get? a = some o∧OwnIt C h₀ φ' H'.length a:=by
 refine ex1_2 (x.keep a o e h.2.2 h.2.1.2 (fun q=>by subst q; exact hK o e vs hd)) fun sl z f=>?_
 have:=f ⟨vs,hd⟩
 subst this
 exact in0_4 z h.1 h.2.1 (x.off h.2.2 e)
theorem SrcR.extL {src : Src} {v : Value} (x : ExtL C K φ H s φ' H' s') (hK : ∀ o,s.heap.get? K = some o→∀ vs,o.data ≠ .fields vs) (h : SrcR C h₀ φ H.length s.heap src v) : SrcR C h₀ φ' H'.length s'.heap src v:=by
 induction src with
 | rng i k=>
  (refine ex1_3 h fun it z1q h1 h2=>?_; clear h; subst z1q)
  obtain ⟨a,b⟩:=x.recd hK h1 rfl h2
  exact in1_3 it rfl a b
 | seq a i=>
  (refine ex1_4 h fun it z2q z3q h3 h2=>?_; clear h; subst z2q; obtain ⟨o,h1,hc,hd⟩:=z3q)
  obtain ⟨a',b⟩:=x.recd hK h1 hd h2
  exact in1_4 it rfl ⟨o,a',hc,by rw [x.phi a h3]; exact hd⟩ (Nat.lt_of_lt_of_le h3 x.len) b
 | enm a i=>
  (refine ex3_7 h fun e it old z4q h1 z5q h3 h4 h5 h6=>?_; clear h; subst z4q; obtain ⟨o,h2,hc,hd⟩:=z5q)
  obtain ⟨a',b⟩:=x.recd hK h1 rfl h5
  obtain ⟨a'',b'⟩:=x.recd hK h2 hd h6
  exact in3_7 e it old rfl a' ⟨o,a'',hc,by rw [x.phi a h3]; exact hd⟩ (Nat.lt_of_lt_of_le h3 x.len) h4 b b'
end
theorem St.nonf (X : St C A l n φ H s cdv sc cs ρ env) : ∀ o,s.heap.get? env.locals = some o→∀ vs,o.data ≠ .fields vs:=fun o e vs w=>by
 (refine ex1_2 X.en.ns fun m z6q _=>?_; obtain ⟨o',es,ep,w1,w2,_⟩:=z6q)
 rw [e] at w1; cases w1
 rw [w] at w2; cases w2
theorem p_storeLoc {x : Nat} {nm : Str} {v : V} {cv : Value} {Q : Unit→Shared→Prop} {E : Value→Shared→Prop} (X : St C A l n φ H s cdv sc cs ρ env) (nd : (localNames sc).Nodup) (h1 : (localNames sc)[x]? = some nm) (hv : VR C φ H.length v cv)
  (h : ∀ s',ExtL C env.locals φ H s φ H s'→St C A l n φ H s' cdv sc cs (ρ.set x (some v)) env→Q () s') : wpAny (model C.prog C.w) A (PySem.storeName env nm cv) Q E s:=by
 refine ex1_2 X.en.ns fun m hn hr=>?_
 refine wpAny_storeName_local (X.en.loc x nm h1) hn (fun h' hn' hs'=>?_) (by rw [X.en.kind]; rfl)
 obtain ⟨x1,x2⟩:=X.loc (tk:=s.toks + 1) hs' hn' (hr.put nd h1 hv)
 exact h _ x1 x2
inductive TurnF (C : Cx) (A : Around) (l : List Env) (cdv : Value) (sc : Scope) (cs : List Nat) (env : Env) (φ : Nat→Addr) (H : List O) (s : Shared) (res : Res (Fl × Lo)) (g : Nat→Lo→Src→List O→Res (Fl × Lo)) (v : Value) (k : Nat) (s' : Shared) : Prop
 | mk (H' : List O) (φ' : Nat→Addr) (ρ' : Lo) (sr : Src) (q : res = g k ρ' sr H') (x : ExtL C env.locals φ H s φ' H' s') (z : St C A (env :: l) k φ' H' s' cdv sc cs ρ' env) (w : SrcR C s.heap φ' H'.length s'.heap sr v) : TurnF C A l cdv sc cs env φ H s res g v k s'
theorem fold_none {e : Expr} {x : Value} (h : notSet e = true) : PySem.foldedSetIterable e env x = pure x:=by
 induction e using Expr.casesOn <;> first | rfl | cases h
theorem s_fo1 {TrS : Value→Scope→S→Stmt→Prop} {x : Nat} {nm : Str} {it : E} {b : List S} {pit : Expr} {pb : List Stmt} {p tp : Pos} (G : Good C) (G3 : Good3 C) (XS : ExcSet C) (XS0 : ExcSet0 C) (E0 : ∀ k,k ≤ n→SndE C k) (Es : SndEs C n) (Ss : ∀ k,k < n→SndSs C k TrS) (X : St C A (env :: l) n φ H s cdv sc cs ρ env) (nd : (localNames sc).Nodup)
  (hx : (localNames sc)[x]? = some nm) (hi : TrE C cdv sc it pit) (hns : notSet pit = true) (hb : All2 (TrS cdv sc) b pb) :
  SimF C A cdv sc cs env (src (ev n) cs ρ it >>= fun sr=>(ev n).fo cs ρ [.loc x] sr b) (exec (.For (.Name nm tp) pit pb [] p) env) φ H s:=by
 intro hne
 obtain ⟨L,hL⟩:=X.en.fr
 refine wpAny_For ?_ (fun x=>fold_none hns)
 refine wpAny_mono (p_src G3 (E0 n (Nat.le_refl _)) Es X hi fun z=>hne (bind_stuck z)) ?_ ?_
 ·intro xv s₁ hs
  refine wpAny_mono hs ?_ fun _ _ z=>z.elim
  intro itv s₂ zq; obtain ⟨sr,H₂,φ₂,q2,x2,r2,v2⟩:=zq
  rw [bind_at q2] at hne ⊢
  have X2:=X.ext x2 r2
  refine codeAny_forLoop_any (fun k s'=>k ≤ n∧TurnF C A l cdv sc cs env φ H s ((ev n).fo cs ρ [.loc x] sr b H₂) (fun k ρ' sr H'=>(ev k).fo cs ρ' [.loc x] sr b H') itv k s') ?_ n ⟨Nat.le_refl _,H₂,φ₂,ρ,sr,rfl,x2.loose,X2,v2⟩
  intro k s₃ zq; obtain ⟨hk,H₃,φ₃,ρ₃,sr₃,e1,x3,X3,v3⟩:=zq
  try dsimp only at e1
  induction k with
  | zero=>exact absurd e1 hne
  | succ k=>
   have hk' : k < n:=hk
   have e2 : (ev (k + 1)).fo cs ρ₃ [.loc x] sr₃ b H₃ = (nextS sr₃ >>= fun q=>match q with
    | none=>Pure.pure (.nxt,ρ₃)
    | some (vs,sr')=>asgAll methT (ev k) cs ρ₃ [.loc x] vs >>= fun ρ₁=>(ev k).ss cs ρ₁ b >>= fun q=>match q with
     | (f,ρ')=>match f with
      | .nxt=>(ev k).fo cs ρ' [.loc x] sr' b
      | .brk=>Pure.pure (.nxt,ρ')
      | .ret v=>Pure.pure (.ret v,ρ')) H₃:=rfl
   rw [e2] at e1
   have Xd:=X3.down
   refine p_next (h₀:=s.heap) (Z:=fun s'=>ExtL C env.locals φ H s φ₃ H₃ s'∧St C A (env :: l) k φ₃ H₃ s' cdv sc cs ρ₃ env) X.rd.han (fun T h' tk t1 t2 t3 t4=>?_) X3.r v3 (fun z=>hne (e1.trans (bind_stuck z))) ?_ ?_ ?_
   ·obtain ⟨y1,y2⟩:=touchL (tk:=tk) T x3 Xd (fun a ha=>⟨t1 a ha,t4 a ha⟩) t2 t3
    exact ⟨⟨y1,y2⟩,y2.r⟩
   ·rintro s₄ q4 ⟨x4,X4⟩ r4 _
    rw [bind_at q4] at e1
    exact wpAny_execs_nil ⟨.nxt,ρ₃,H₃,φ₃,e1,x4,r4,X4.en,trivial⟩
   ·rintro s₄ u cu sr₄ q4 ⟨x4,X4⟩ r4 _ vu v4 _
    rw [bind_at q4] at e1
    refine (?_ : wpAny _ _ (pure () : Sem Unit) _ _ s₄)
    refine wpAny_pure ?_
    have e3 : asgAll methT (ev k) cs ρ₃ [.loc x] [u] = ((if x < ρ₃.length then Pure.pure (ρ₃.set x (some u)) else Mp.stuck) >>= fun ρ'=>Pure.pure ρ'):=rfl
    by_cases hxl : x < ρ₃.length
    ·have e4 : asgAll methT (ev k) cs ρ₃ [.loc x] [u] H₃ = .ok (ρ₃.set x (some u)) H₃:=by rw [e3,if_pos hxl]; rfl
     have e1 : (ev n).fo cs ρ [.loc x] sr b H₂ = ((ev k).ss cs (ρ₃.set x (some u)) b >>= fun q=>match q with
      | (f,ρ')=>match f with
       | .nxt=>(ev k).fo cs ρ' [.loc x] sr₄ b
       | .brk=>Pure.pure (.nxt,ρ')
       | .ret v=>Pure.pure (.ret v,ρ')) H₃:=e1.trans (bind_at e4)
     refine wpAny_assign_Name (p_storeLoc X4 nd hx vu fun s₅ x5 X5=>?_)
     have v5:=v4.extL x5 X4.nonf
     have x35:=x4.trans x5
     refine wpAny_mono (Ss k hk' X5 nd hb fun z=>hne (e1.trans (bind_stuck z))) ?_ ?_
     ·intro f s₆ zq; obtain ⟨a,ρ₆,H₆,φ₆,q6,x6,r6,en6,z6⟩:=zq
      rw [bind_at q6] at e1
      have X6:=X5.extL x6 r6 en6
      have x16:=x35.trans x6
      induction a <;> induction f <;> try exact z6.elim
      ·exact ⟨k,Nat.lt_succ_self _,Nat.le_of_lt hk',H₆,φ₆,ρ₆,sr₄,e1,x16,X6,v5.extL x6 X5.nonf⟩
      ·exact ⟨.nxt,ρ₆,H₆,φ₆,e1,x16,r6,en6,trivial⟩
      ·exact ⟨.ret _,ρ₆,H₆,φ₆,e1,x16,r6,en6,z6⟩
     ·intro ce s₆ zq; obtain ⟨m,H₆,φ₆,q6,x6,r6,z6,mm,hn⟩:=zq
      have x16:=x35.trans x6
      rw [hL] at z6
      exact back_ok X.rd.fr hL x16 r6 (X5.st.extL x6 hn) (z6.old x35.live) hn fun s' y1 y2 y3 y4=>⟨m,H₆,φ₆,e1.trans (bind_err q6),y1,y2,by rw [hL]; exact y3,_,y4⟩
    ·exact absurd (e1.trans (bind_stuck (by rw [e3,if_neg hxl]; rfl))) hne
   ·rintro s₄ a i u cu e itt T tk he hv q4
    rw [bind_at q4] at e1
    refine absurd (e1.trans ?_) hne
    refine bind_stuck ?_
    refine (?_ : ((if x < ρ₃.length then Pure.pure (ρ₃.set x (some (.int i))) else Mp.stuck : M Lo) >>= fun ρ'=>Mp.stuck) H₃ = _)
    split <;> rfl
 ·intro ce s₁ zq; obtain ⟨k,H₁,φ₁,q1,x1,r1,z1⟩:=zq
  exact ⟨k,H₁,φ₁,bind_err q1,x1.loose,r1,z1,(X.en.ext x1).some⟩
end
section
variable {C : Cx} {A : Around} {fl : Option Addr} {φ : Nat→Addr} {H : List O} {s : Shared} {l : List Env} {d : Nat}
variable {n : Nat} {cdv : Value} {sc : Scope} {cs : List Nat} {ρ : Lo} {env : Env}
theorem s_fo2 {TrS : Value→Scope→S→Stmt→Prop} {x y kk : Nat} {pts : List Expr} {it : E} {b : List S} {pit : Expr} {pb : List Stmt} {p tp : Pos} (G : Good C) (G3 : Good3 C) (XS : ExcSet C) (XS0 : ExcSet0 C) (E0 : ∀ k,k ≤ n→SndE C k) (Es : SndEs C n) (Ss : ∀ k,k < n→SndSs C k TrS) (X : St C A (env :: l) n φ H s cdv sc cs ρ env) (nd : (localNames sc).Nodup)
  (hx : All2 (TrT C cdv sc) [.loc x,.loc y] pts) (hi : TrE C cdv sc it pit) (hns : notSet pit = true) (hb : All2 (TrS cdv sc) b pb) :
  SimF C A cdv sc cs env (src (ev n) cs ρ it >>= fun sr=>(ev n).fo cs ρ [.loc x,.loc y] sr b) (exec (.For (.Tuple pts kk tp) pit pb [] p) env) φ H s:=by
 intro hne
 obtain ⟨L,hL⟩:=X.en.fr
 refine wpAny_For ?_ (fun x=>fold_none hns)
 refine wpAny_mono (p_src G3 (E0 n (Nat.le_refl _)) Es X hi fun z=>hne (bind_stuck z)) ?_ ?_
 ·intro xv s₁ hs
  refine wpAny_mono hs ?_ fun _ _ z=>z.elim
  intro itv s₂ zq; obtain ⟨sr,H₂,φ₂,q2,x2,r2,v2⟩:=zq
  rw [bind_at q2] at hne ⊢
  have X2:=X.ext x2 r2
  refine codeAny_forLoop_any (fun k s'=>k ≤ n∧TurnF C A l cdv sc cs env φ H s ((ev n).fo cs ρ [.loc x,.loc y] sr b H₂) (fun k ρ' sr H'=>(ev k).fo cs ρ' [.loc x,.loc y] sr b H') itv k s') ?_ n ⟨Nat.le_refl _,H₂,φ₂,ρ,sr,rfl,x2.loose,X2,v2⟩
  intro k s₃ zq; obtain ⟨hk,H₃,φ₃,ρ₃,sr₃,e1,x3,X3,v3⟩:=zq
  try dsimp only at e1
  induction k using Nat.casesOn with
  | zero=>exact absurd e1 hne
  | succ k=>
   have hk' : k < n:=hk
   have e2 : (ev (k + 1)).fo cs ρ₃ [.loc x,.loc y] sr₃ b H₃ = (nextS sr₃ >>= fun q=>match q with
    | none=>Pure.pure (.nxt,ρ₃)
    | some (vs,sr')=>asgAll methT (ev k) cs ρ₃ [.loc x,.loc y] vs >>= fun ρ₁=>(ev k).ss cs ρ₁ b >>= fun q=>match q with
     | (f,ρ')=>match f with
      | .nxt=>(ev k).fo cs ρ' [.loc x,.loc y] sr' b
      | .brk=>Pure.pure (.nxt,ρ')
      | .ret v=>Pure.pure (.ret v,ρ')) H₃:=rfl
   rw [e2] at e1
   have Xd:=X3.down
   refine p_next (h₀:=s.heap) (Z:=fun s'=>ExtL C env.locals φ H s φ₃ H₃ s'∧St C A (env :: l) k φ₃ H₃ s' cdv sc cs ρ₃ env) X.rd.han (fun T h' tk t1 t2 t3 t4=>?_) X3.r v3 (fun z=>hne (e1.trans (bind_stuck z))) ?_ ?_ ?_
   ·obtain ⟨y1,y2⟩:=touchL (tk:=tk) T x3 Xd (fun a ha=>⟨t1 a ha,t4 a ha⟩) t2 t3
    exact ⟨⟨y1,y2⟩,y2.r⟩
   ·rintro s₄ q4 ⟨x4,X4⟩ r4 _
    rw [bind_at q4] at e1
    exact wpAny_execs_nil ⟨.nxt,ρ₃,H₃,φ₃,e1,x4,r4,X4.en,trivial⟩
   ·rintro s₄ u cu sr₄ q4
    rw [bind_at q4] at e1
    refine fun _ _ _ _ _ _=>absurd (e1.trans ?_) hne
    refine bind_stuck ?_
    refine (?_ : ((if x < ρ₃.length then Pure.pure (ρ₃.set x (some u)) else Mp.stuck : M Lo) >>= fun ρ'=>Mp.stuck) H₃ = _)
    split <;> rfl
   ·rintro s₄ a i u cu e itt T tk he hv q4 ⟨x4,X4⟩ r4 k4 vu w1 w2 w3 w4 w5 w6 w7 w8
    subst hv
    rw [bind_at q4] at e1
    have hTe : T ≠ e:=fun q=>by
     subst q
     subst he
     (refine ex3_3 v3 fun e' it' old' ee f1 _=>?_; clear v3)
     cases ee
     have f1' : s₃.heap.get? T = some _:=f1
     rw [w8] at f1'; cases f1'
    refine wpAny_letOwnedTupleGo_enum w1 fun h' g1 g2=>?_
    obtain ⟨x5,X5⟩:=touchL (tk:=s₄.toks) (h':=h') (fun b=>b = e) x4 X4 (fun b hb=>by subst hb; exact ⟨w5,_,_,w1,rfl⟩) (fun b o q hb=>(g2.2 b hb).trans q) (fun b hb=>by subst hb; exact in2_3 _ _ g1 rfl (by simp))
    have v5 : SrcR C s.heap φ₃ H₃.length h' (.enm a (i + 1)) (.ref e):=by
     refine in3_7 e itt cu rfl ?_ ?_ w3 w4 w5 w6
     ·have : (((i + 1 : Nat) : Nat) : Int) = (i : Int) + 1:=by lia
      rw [this]; exact g1
     ·(refine ex1_3 w2 fun o f1 f2 f3=>?_; clear w2)
      exact in1_3 o ((g2.2 itt (Ne.symm w4)).trans f1) f2 f3
    have hT : h'.IsTuple T [Value.int (i : Int) tk,cu].toArray:=⟨_,(g2.2 T hTe).trans w7,rfl,_,rfl⟩
    have sa:=p_unpack (kk:=kk) (p:=tp) G XS XS0 (E0 k (Nat.le_of_lt hk')) nd X5 hx (All2.cons (VR.int (i : Int) tk) (.cons vu .nil)) hT rfl
    refine wpAny_mono (sa fun z=>hne (e1.trans (bind_stuck z))) ?_ ?_
    ·intro _ s₆ zq; obtain ⟨ρ₆,H₆,φ₆,q6,x6,r6,en6⟩:=zq
     have X6:=X5.extL x6 r6 en6
     have v6:=v5.extL x6 X5.nonf
     have x36:=x5.trans x6
     have e1 : (ev n).fo cs ρ [.loc x,.loc y] sr b H₂ = ((ev k).ss cs ρ₆ b >>= fun q=>match q with
      | (f,ρ')=>match f with
       | .nxt=>(ev k).fo cs ρ' [.loc x,.loc y] (.enm a (i + 1)) b
       | .brk=>Pure.pure (.nxt,ρ')
       | .ret v=>Pure.pure (.ret v,ρ')) H₆:=e1.trans (bind_at q6)
     refine wpAny_mono (Ss k hk' X6 nd hb fun z=>hne (e1.trans (bind_stuck z))) ?_ ?_
     ·intro f s₇ zq; obtain ⟨a',ρ₇,H₇,φ₇,q7,x7,r7,en7,z7⟩:=zq
      rw [bind_at q7] at e1
      have X7:=X6.extL x7 r7 en7
      have x17:=x36.trans x7
      induction a' <;> induction f <;> try exact z7.elim
      ·exact ⟨k,Nat.lt_succ_self _,Nat.le_of_lt hk',H₇,φ₇,ρ₇,_,e1,x17,X7,v6.extL x7 X6.nonf⟩
      ·exact ⟨.nxt,ρ₇,H₇,φ₇,e1,x17,r7,en7,trivial⟩
      ·exact ⟨.ret _,ρ₇,H₇,φ₇,e1,x17,r7,en7,z7⟩
     ·intro ce s₇ zq; obtain ⟨m,H₇,φ₇,q7,x7,r7,z7,mm,hn⟩:=zq
      have x17:=x36.trans x7
      rw [hL] at z7
      exact back_ok X.rd.fr hL x17 r7 (X6.st.extL x7 hn) (z7.old x36.live) hn fun s' y1 y2 y3 y4=>⟨m,H₇,φ₇,e1.trans (bind_err q7),y1,y2,by rw [hL]; exact y3,_,y4⟩
    ·intro ce s₆ zq; obtain ⟨m,H₆,φ₆,q6,x6,r6,z6,mm,hn⟩:=zq
     have x16:=x5.trans x6
     rw [hL] at z6
     exact back_ok X.rd.fr hL x16 r6 (X5.st.extL x6 hn) (z6.old x5.live) hn fun s' y1 y2 y3 y4=>⟨m,H₆,φ₆,e1.trans (bind_err q6),y1,y2,by rw [hL]; exact y3,_,y4⟩
 ·intro ce s₁ zq; obtain ⟨k,H₁,φ₁,q1,x1,r1,z1⟩:=zq
  exact ⟨k,H₁,φ₁,bind_err q1,x1.loose,r1,z1,(X.en.ext x1).some⟩
end
section
variable {C : Cx} {A : Around} {fl : Option Addr} {φ : Nat→Addr} {H : List O} {s : Shared} {l : List Env} {d : Nat}
variable {n : Nat} {cdv : Value} {sc : Scope} {cs : List Nat} {ρ : Lo} {env : Env}
theorem tup_at {m : Nat} {xs : List V} (r : Rel C φ H s.heap) (e : H[m]? = some (.tup xs)) : ∃ vs : List Value,s.heap.IsTuple (φ m) vs.toArray∧All2 (VR C φ H.length) xs vs:=by
 refine ex1_2 (r.obj m _ e) fun ob h1 h2=>?_
 refine ex3_3 h2.inv fun vs ep sl z x _=>?_
 subst z
 exact ⟨_,⟨_,h1,rfl,_,rfl⟩,x⟩
theorem s_asgT {ts : List T} {e : E} {pts : List Expr} {pe : Expr} {kk : Nat} {p p1 : Pos} (G : Good C) (XS : ExcSet C) (XS0 : ExcSet0 C) (E0 : SndE C n) (X : St C A l n φ H s cdv sc cs ρ env) (nd : (localNames sc).Nodup) (ht : All2 (TrT C cdv sc) ts pts) (h : TrE C cdv sc e pe) (hc : notComp pe = true)
  (hn : PySem.swappedStores [.Tuple pts kk p1] pe env = pure none) :
  SimF C A cdv sc cs env ((ev n).e cs ρ e >>= fun v=>match v with
   | .ref m=>getO m >>= fun o=>match o with
    | .tup xs=>if Nat.beq xs.length ts.length then (asgAll methT (ev n) cs ρ ts xs >>= fun ρ'=>Pure.pure (.nxt,ρ')) else Mp.stuck
    | _=>Mp.stuck
   | _=>Mp.stuck) (exec (.Assign [.Tuple pts kk p1] pe p) env) φ H s:=by
 have hs : PySem.swapsWithSole [.Tuple pts kk p1] pe p.line env = pure false:=by
  refine (?_ : PySem.swapsWith pe (some (.Tuple pts kk p1)) p.line env = pure false)
  exact swaps_none hc
 rw [arm_exec_Assign,hs,hn]
 refine SimF.standAt ?_
 rw [pure_bind,if_neg (by simp)]
 refine SimF.bindE X (E0 X h) fun v c H₁ φ₁ s₁ q1 x1 r1 v1=>?_
 rw [pure_bind]
 have X1:=X.ext x1 r1
 refine (?_ : SimF C A cdv sc cs env _ (PySem.assign (.Tuple pts kk p1) env c >>= fun _=>pure .next) φ₁ H₁ s₁)
 induction v1 <;> try exact SimF.stuck
 rename_i m hm
 intro hne
 induction e1 : H₁[m]? using Option.casesOn with
 | none=>exact absurd (bind_stuck (by unfold getO; rw [e1])) hne
 | some o=>
  have hne : (getO m >>= fun o=>match o with
    | .tup xs=>if Nat.beq xs.length ts.length then (asgAll methT (ev n) cs ρ ts xs >>= fun ρ'=>Pure.pure (.nxt,ρ')) else Mp.stuck
    | _=>Mp.stuck : M (Fl × Lo)) H₁ ≠ .stuck:=hne
  refine (?_ : wpAny _ _ _ (OkF _ _ _ _ _ _ _ _ ((getO m >>= fun o=>match o with
    | .tup xs=>if Nat.beq xs.length ts.length then (asgAll methT (ev n) cs ρ ts xs >>= fun ρ'=>Pure.pure (.nxt,ρ')) else Mp.stuck
    | _=>Mp.stuck : M (Fl × Lo)) H₁)) (ErB _ _ _ _ _ _ ((getO m >>= fun o=>match o with
    | .tup xs=>if Nat.beq xs.length ts.length then (asgAll methT (ev n) cs ρ ts xs >>= fun ρ'=>Pure.pure (.nxt,ρ')) else Mp.stuck
    | _=>Mp.stuck : M (Fl × Lo)) H₁)) _)
  rw [bind_at (getO_eq e1)] at hne ⊢
  obtain ⟨xs,rfl⟩:=only_tup hne
  refine ex1_2 (tup_at r1 e1) fun vs t1 t2=>?_
  by_cases hl : Nat.beq xs.length ts.length = true
  ·dsimp only at hne ⊢
   rw [if_pos hl] at hne ⊢
   exact SimF.bindA (p_unpack (kk:=kk) (p:=p1) G XS XS0 E0 nd X1 ht t2 t1 (Nat.eq_of_beq_eq_true hl)) (fun ρ' H₂ φ₂ s₂ q2 x2 r2 e2=>SimF.pure (X1.extL x2 r2 e2) trivial) hne
  ·dsimp only at hne
   rw [if_neg hl] at hne
   exact absurd rfl hne
end
section
variable {C : Cx} {A : Around} {fl : Option Addr} {φ : Nat→Addr} {H : List O} {s : Shared} {l : List Env} {d : Nat}
variable {n : Nat} {cdv : Value} {sc : Scope} {cs : List Nat} {ρ : Lo} {env : Env}
theorem exec_def {name bind : Str} {a : List PySem.Arg} {body : List Stmt} {lsc : Scope} {ts : Option Scope} {p : Pos} (ha : ∀ x,x ∈ a→x.annotation = none) :
  exec (.FunctionDef name ⟨[],a,none,[],[],none,[]⟩ body [] none [] lsc ts bind p) env = (PySem.evalAll [] >>= fun decos=>standAt p >>= fun _=>holding decos (PySem.evalAll [] >>= fun dv=>holding dv (PySem.evalAllOpt []) >>= fun kdv=>holding (dv ++ kdv.filterMap id) (PySem.evalNamed [] >>= fun ann=>
   PySem.makeFunction name (PySem.qualnameIn env name bind) ⟨[],a,none,[],[],none,[]⟩ (.stmts body) lsc env dv kdv ann p p.line)) >>= fun f=>PySem.decorate (decos.zip []).reverse f >>= fun f=>standAt p >>= fun _=>PySem.bindName env bind f >>= fun _=>pure .next):=by
 have ann : ∀ (a : List PySem.Arg),(∀ x,x ∈ a→x.annotation = none)→PySem.annotationsOf a env = []:=by
  intro a
  induction a with
  | nil=>intro _; rfl
  | cons x r ih=>
   intro hx
   obtain ⟨nm,an,ps⟩:=x
   have:=hx _ (.head _)
   dsimp only at this
   subst this
   exact ih fun y hy=>hx y (.tail _ hy)
 have h2 : PySem.annotationsOf (a ++ [] ++ (none : Option PySem.Arg).toList ++ [] ++ (none : Option PySem.Arg).toList) env ++ ((evalOpt none env).map ((("return" : Str),·))).toList = []:=by
  have : a ++ [] ++ (none : Option PySem.Arg).toList ++ [] ++ (none : Option PySem.Arg).toList = a:=by simp
  rw [this,ann a ha]; rfl
 rw [← h2]
 rfl
theorem p_bind {t : T} {nm : Str} {p : Pos} {v : V} {cv : Value} (X : St C A l n φ H s cdv sc cs ρ env) (nd : (localNames sc).Nodup) (h : TrT C cdv sc t (.Name nm p)) (hv : VR C φ H.length v cv) :
  SimA C A cdv sc cs env (asgM methT (ev n) cs ρ v t) (PySem.bindName env nm cv) φ H s:=by
 intro hne
 cases h with
 | @loc x nm p h1=>
  have hne : (if x < ρ.length then (Pure.pure (ρ.set x (some v)) : M Lo) else Mp.stuck) H ≠ .stuck:=hne
  by_cases hx : x < ρ.length
  ·refine p_bindLoc X nd h1 hv fun s' x1 X1=>⟨_,H,φ,?_,x1,X1.r,X1.en⟩
   refine (?_ : (if x < ρ.length then (Pure.pure (ρ.set x (some v)) : M Lo) else Mp.stuck) H = _)
   rw [if_pos hx]; rfl
  ·rw [if_neg hx] at hne; exact absurd rfl hne
 | @cel x nm p h1 h2=>
  have hne : (setC cs x v >>= fun _=>(Pure.pure ρ : M Lo)) H ≠ .stuck:=hne
  obtain ⟨_,m,q1,q2,q3⟩:=X.en.cel x nm h1
  induction e : H[m]? using Option.casesOn with
  | none=>exact absurd (bind_stuck (by unfold setC; rw [q1]; exact bind_stuck (by unfold getO; rw [e]))) hne
  | some o=>
   have es : setC cs x v H = celPut m v o H:=by
    unfold setC; rw [q1]; exact bind_at (f:=celPut m v) (getO_eq e)
   induction o <;> try exact absurd (bind_stuck es) hne
   rename_i v₀
   refine p_bindCel X h1 (X.en.own nm h2) q1 e hv fun s' x1 r1=>⟨ρ,_,φ,?_,x1.loose,r1,X.en.ext x1⟩
   refine (?_ : (setC cs x v >>= fun _=>(Pure.pure ρ : M Lo)) H = _)
   rw [bind_at (show setC cs x v H = .ok () _ from es)]; rfl
theorem s_def {k : Nat} {c : List Nat} {t : T} {name bind : Str} {a : List PySem.Arg} {body : List Stmt} {lsc : Scope} {P cd : Addr} {p p1 : Pos} {ts : Option Scope} (G : Good C) (G2 : Good2 C) (G4 : Good4 C) (XS : ExcSet C) (XS0 : ExcSet0 C) (E0 : SndE C n)
  (X : St C A l n φ H s cdv sc cs ρ env) (nd : (localNames sc).Nodup) (hk : isC k = true) (h1 : C.par k = ⟨[],a,none,[],[],none,[]⟩) (h2 : C.bod k = .stmts body) (h3 : C.sco k = lsc) (ha : ∀ x,x ∈ a→x.annotation = none)
  (hc : All2 (fun (j : Nat) x=>(celNames sc)[j]? = some x) c (freeNames lsc)) (h6 : C.cod k = .none) (h7 : cdv = .ref cd) (h8 : CodeHd C.base cd P) (h9 : P ∈ C.tabs) (ht : TrT C cdv sc t (.Name bind p1)) :
  SimF C A cdv sc cs env (opt (caps cs c) >>= fun l=>new (.clo k l) >>= fun f=>asgM methT (ev n) cs ρ (.ref f) t >>= fun ρ'=>Pure.pure (.nxt,ρ')) (exec (.FunctionDef name ⟨[],a,none,[],[],none,[]⟩ body [] none [] lsc ts bind p) env) φ H s:=by
 have e1 : PySem.evalAll [] = pure []:=rfl
 have e2 : PySem.evalAllOpt [] = pure []:=rfl
 have e3 : PySem.evalNamed [] = pure []:=rfl
 rw [exec_def ha,e1,e2,e3]
 simp only [pure_bind]
 refine SimF.standAt ?_
 have e4 : (opt (caps cs c) >>= fun l=>new (.clo k l) >>= fun f=>asgM methT (ev n) cs ρ (.ref f) t >>= fun ρ'=>(Pure.pure (.nxt,ρ') : M (Fl × Lo))) = ((opt (caps cs c) >>= fun l=>new (.clo k l) >>= fun f=>(Pure.pure (V.ref f) : M V)) >>= fun v=>asgM methT (ev n) cs ρ v t >>= fun ρ'=>Pure.pure (.nxt,ρ')):=by
  rw [m_assoc]
  congr 1
 rw [e4]
 refine SimF.bindE (R:=VH C) X (Sim.holding (Sim.head (wpAny_holding (wpAny_pure ⟨.refl ..,Sim.holding (p_make G G2 G4 X hk h1 h2 h3 hc h6 h7 h8 h9)⟩)))) fun v cv H₁ φ₁ s₁ q1 x1 r1 v1=>?_
 have X1:=X.ext x1 r1
 refine (?_ : SimF C A cdv sc cs env _ (pure cv >>= fun f=>standAt p >>= fun _=>PySem.bindName env bind f >>= fun _=>pure .next) φ₁ H₁ s₁)
 rw [pure_bind]
 refine SimF.standAt ?_
 have sb : SimA C A cdv sc cs env (asgM methT (ev n) cs ρ v t) (PySem.bindName env bind cv) φ₁ H₁ s₁:=p_bind X1 nd ht v1
 exact SimF.bindA sb fun ρ' H₂ φ₂ s₂ q2 x2 r2 e2=>SimF.pure (X1.extL x2 r2 e2) trivial
end
section
variable {C : Cx} {A : Around} {fl : Option Addr} {φ : Nat→Addr} {H : List O} {s : Shared} {l : List Env} {d : Nat}
variable {n : Nat} {cdv : Value} {sc : Scope} {cs : List Nat} {ρ : Lo} {env : Env}
theorem noErr_ok {α : Type} {m : M α} {H : List O} (h : noErr m H ≠ .stuck) : ∃ a H',m H = .ok a H'∧noErr m H = .ok a H':=by
 unfold noErr at h ⊢
 induction e : m H with
 | stuck=>rw [e] at h; exact absurd rfl h
 | err k H'=>rw [e] at h; exact absurd rfl h
 | ok a H'=>exact in2_2 a H' rfl rfl
theorem Sim.noErr {α γ : Type} {R : (Nat→Addr)→Nat→Heap→α→γ→Prop} {m : M α} {t : Sem γ} (h : Sim C A fl R m t φ H s) (hne : noErr m H ≠ .stuck) {E : Value→Shared→Prop} :
  wpAny (model C.prog C.w) A t (OkP C R φ H s (noErr m H)) E s:=by
 refine ex2_2 (noErr_ok hne) fun a H' e1 e2=>?_
 refine wpAny_mono (h (by rw [e1]; intro z; injection z)) ?_ ?_
 ·intro c s' zq; obtain ⟨a',H'',φ',q,x,r,z⟩:=zq
  rw [e1] at q
  cases q
  exact ⟨a,H',φ',e2,x,r,z⟩
 ·intro c s' zq; obtain ⟨a',H'',φ',q,_⟩:=zq
  rw [e1] at q; injection q
theorem loc_gone {L : Addr} {m : Str→Option Value} {φ' : Nat→Addr} {H' : List O} {s' : Shared} {h' : Heap} (x : Ext C φ H s φ' H' s') (r : Rel C φ' H' s'.heap) (hL : s.heap.get? L = none) (hn : s'.heap.Ns L m) (hF : Free C L) (hu : ∀ k,k < H'.length→φ' k ≠ L) (hs : Heap.SameBut L s'.heap h') :
  Ext C φ H s φ' H' { s' with heap:=h' }∧Rel C φ' H' h':=by
 have hc : ∀ cd,CodeAt s'.heap cd→CodeAt h' cd:=fun cd z=>ex3_3 z fun o vs y q1 q2 q3=>by
  refine in3_3 o vs y ((hs.2 cd fun q=>?_).trans q1) q2 q3
  subst q
  (refine ex3_3 hn fun o' es ep w1 w2 _=>?_; clear hn)
  rw [q1] at w1; cases w1
  rw [q2] at w2; cases w2
 have ne : ∀ b o,s.heap.get? b = some o→b ≠ L:=fun b o e q=>by rw [q,hL] at e; injection e
 refine ⟨⟨x.len,x.phi,x.fresh,fun b o e h1 h2=>?_,fun b o e=>?_,x.gens,x.os⟩,fun k o e=>?_,r.inj,r.new,fun b o e=>(hs.2 b fun q=>?_).trans (r.base b o e),fun P hP=>?_⟩
 ·refine ex1_2 (x.keep b o e h1 h2) fun sl z f=>?_
  exact in1_2 sl ((hs.2 b (ne b o e)).trans z) f
 ·obtain ⟨o',z⟩:=x.live b o e
  exact ⟨o',(hs.2 b (ne b o e)).trans z⟩
 ·refine ex1_2 (r.obj k o e) fun ob h1 h2=>?_
  have hm : k < H'.length:=(List.getElem?_eq_some_iff.mp e).1
  exact in1_2 ob ((hs.2 _ (hu k hm)).trans h1) (h2.mono (fun _ _=>rfl) (Nat.le_refl _) fun cd u v=>⟨hc cd u,v⟩)
 ·rw [q,hF.1] at e; injection e
 ·refine ex1_3 (r.tabs P hP) fun ps h1 h2 h3=>?_
  refine in1_3 ps ((hs.2 P fun q=>hF.2 (q ▸ hP)).trans h1) h2 (fun pos c e=>?_)
  refine ex1_3 (h3 pos c e) fun cd a1 a3 a4=>?_
  exact in1_3 cd a1 a3 (hc cd a4)
theorem closes {c cl : List Nat} {lsc : Scope} (X : St C A l n φ H s cdv sc cs ρ env) (hc : All2 (fun (j : Nat) x=>(celNames sc)[j]? = some x) c (freeNames lsc)) (ecl : caps cs c = some cl) :
  ∃ clo,PySem.closureFor lsc env = pure clo∧∀ (i : Nat) x,(freeNames lsc)[i]? = some x→∃ m : Nat,cl[i]? = some m∧m < H.length∧clo.lookup x = some (φ m):=by
 let f : Str→Addr:=fun x=>(env.cells.lookup x).getD 0
 have hfree : ∀ (i : Nat) x,(freeNames lsc)[i]? = some x→∃ m : Nat,cl[i]? = some m∧m < H.length∧env.cells.lookup x = some (φ m):=fun i x e=>by
  have hi : i < c.length:=by rw [hc.length]; exact (List.getElem?_eq_some_iff.mp e).1
  refine ex1_2 (hc.get (List.getElem?_eq_getElem hi)) fun y hy hj=>?_
  rw [e] at hy
  cases hy
  obtain ⟨_,m,q1,q2,q3⟩:=X.en.cel _ x hj
  refine ex1_2 (caps_get ecl i _ (List.getElem?_eq_getElem hi)) fun m' q4 q5=>?_
  rw [q1] at q4
  cases q4
  exact in1_3 m q5 q2 q3
 have hfm : ∀ x,(x,PySem.NameKind.free) ∈ lsc.names→∃ i : Nat,(freeNames lsc)[i]? = some x:=fun x hx=>by
  have : x ∈ freeNames lsc:=List.mem_filterMap.mpr ⟨_,hx,by simp⟩
  obtain ⟨i,hi,e⟩:=List.getElem_of_mem this
  exact ⟨i,List.getElem?_eq_some_iff.mpr ⟨hi,e⟩⟩
 refine in1_2 (closL f lsc.names []) (closureFor_eq fun x hx=>?_) (fun i x e=>?_)
 ·obtain ⟨i,hi⟩:=hfm x hx
  refine ex1_3 (hfree i x hi) fun m _ _ q=>?_
  refine (?_ : env.cells.lookup x = some ((env.cells.lookup x).getD 0))
  rw [q]; rfl
 ·refine ex1_3 (hfree i x e) fun m q1 q2 q3=>?_
  refine in1_3 m q1 q2 ?_
  rw [closL_lookup lsc.names [] (.inr (of_kind e)) (fun _ _ h=>by cases h)]
  refine (?_ : some ((env.cells.lookup x).getD 0) = _)
  rw [q3]; rfl
theorem relabel_lookup {k : PySem.NameKind} (hk : k ≠ .free) : ∀ {names : List (Str × PySem.NameKind)} {x : Str},names.lookup x = some k →
  (names.map fun (n,k)=>if (k == PySem.NameKind.free && env.scope.kind == .function && env.kindOf n == some .cell) then (n,PySem.NameKind.cell) else (n,k)).lookup x = some k
 | [],_,h=>by simp at h
 | (n,j) :: r,x,h=>by
  have ih:=@relabel_lookup k hk r x
  refine (?_ : List.lookup x ((if (j == PySem.NameKind.free && env.scope.kind == .function && env.kindOf n == some .cell) = true then (n,PySem.NameKind.cell) else (n,j)) :: _) = _)
  induction hx : x == n with
  | true=>
   simp only [List.lookup_cons,hx] at h
   cases h
   have : (k == PySem.NameKind.free) = false:=by induction k <;> first | rfl | exact absurd rfl hk
   simp [List.lookup_cons,hx,this]
  | false=>
   simp only [List.lookup_cons,hx] at h
   by_cases hc : (j == PySem.NameKind.free && env.scope.kind == .function && env.kindOf n == some .cell) = true
   ·rw [if_pos hc]; simp only [List.lookup_cons,hx]; exact ih h
   ·rw [if_neg hc]; simp only [List.lookup_cons,hx]; exact ih h
theorem relabel_free : ∀ {names : List (Str × PySem.NameKind)} {x : Str},names.lookup x = some .free →
  (names.map fun (n,k)=>if (k == PySem.NameKind.free && env.scope.kind == .function && env.kindOf n == some .cell) then (n,PySem.NameKind.cell) else (n,k)).lookup x = some .cell ∨ (names.map fun (n,k)=>if (k == PySem.NameKind.free && env.scope.kind == .function && env.kindOf n == some .cell) then (n,PySem.NameKind.cell) else (n,k)).lookup x = some .free
 | [],_,h=>by simp at h
 | (n,j) :: r,x,h=>by
  have ih:=@relabel_free r x
  refine (?_ : List.lookup x ((if (j == PySem.NameKind.free && env.scope.kind == .function && env.kindOf n == some .cell) = true then (n,PySem.NameKind.cell) else (n,j)) :: _) = _ ∨ List.lookup x ((if (j == PySem.NameKind.free && env.scope.kind == .function && env.kindOf n == some .cell) = true then (n,PySem.NameKind.cell) else (n,j)) :: _) = _)
  induction hx : x == n with
  | true=>
   simp only [List.lookup_cons,hx] at h
   cases h
   by_cases hc : (PySem.NameKind.free == PySem.NameKind.free && env.scope.kind == .function && env.kindOf n == some .cell) = true
   ·rw [if_pos hc]; left; simp [List.lookup_cons,hx]
   ·rw [if_neg hc]; right; simp [List.lookup_cons,hx]
  | false=>
   simp only [List.lookup_cons,hx] at h
   by_cases hc : (j == PySem.NameKind.free && env.scope.kind == .function && env.kindOf n == some .cell) = true
   ·rw [if_pos hc]; simp only [List.lookup_cons,hx]; exact ih h
   ·rw [if_neg hc]; simp only [List.lookup_cons,hx]; exact ih h
noncomputable def coStep (k : Nat) (cs : List Nat) (ρ : Lo) (elt : E) (cond : Option E) (x : Nat) (s : Src) (acc : Nat) : M Unit:=nextS s >>= fun q=>match q with
 | none=>Pure.pure ()
 | some (vs,s')=>match vs with
  | [v]=>(match cond with | none=>Pure.pure true | some c=>Mp.noErr ((ev k).t cs (ρ.set x (some v)) c)) >>= fun ok=>if ok then (Mp.noErr ((ev k).e cs (ρ.set x (some v)) elt) >>= fun y=>Mp.getO acc >>= fun o=>match o with
    | .list xs=>if xs.length < 50000 then (setO acc (.list (xs ++ [y])) >>= fun _=>(ev k).co cs (ρ.set x (some v)) elt cond x s' acc) else Mp.stuck
    | _=>Mp.stuck) else (ev k).co cs (ρ.set x (some v)) elt cond x s' acc
  | _=>Mp.stuck
theorem co_succ (k : Nat) (cs : List Nat) (ρ : Lo) (elt : E) (cond : Option E) (x : Nat) (s : Src) (acc : Nat) : (ev (k + 1)).co cs ρ elt cond x s acc = coStep k cs ρ elt cond x s acc:=by
 induction cond using Option.casesOn <;> rfl
inductive TurnC (C : Cx) (A : Around) (l : List Env) (cdv : Value) (sc : Scope) (cs : List Nat) (env : Env) (φ : Nat→Addr) (H : List O) (s : Shared) (res : Res Unit) (g : Nat→Lo→Src→List O→Res Unit) (v : Value) (acc : Nat) (aa : Addr) (k : Nat) (s' : Shared) : Prop
 | mk (H' : List O) (φ' : Nat→Addr) (ρ' : Lo) (sr : Src) (q : res = g k ρ' sr H') (x : ExtL C env.locals φ H s φ' H' s') (z : St C A l k φ' H' s' cdv sc cs ρ' env) (w : SrcR C s.heap φ' H'.length s'.heap sr v) (u : acc < H'.length) (y : φ' acc = aa) : TurnC C A l cdv sc cs env φ H s res g v acc aa k s'
theorem iter_self {h₀ : Heap} {N : Nat} {src : Src} {v : Value} {Q : Value→Shared→Prop} {E : Value→Shared→Prop} (h : SrcR C h₀ φ N s.heap src v) (q : Q v s) : wpAny (model C.prog C.w) A (pyIter v) Q E s:=by
 induction src with
 | rng i k=>(refine ex1_3 h fun it z1q h1 _=>?_; clear h; subst z1q); exact wpAny_pyIter_rangeiter h1 q
 | seq a i=>(refine ex1_3 h fun it z2q h1 _=>?_; clear h; subst z2q); exact wpAny_pyIter_listiter h1 q
 | enm a i=>(refine ex3_3 h fun e it old z3q h1 _=>?_; clear h; subst z3q); exact wpAny_pyIter_enum h1 q
end
section
variable {C : Cx} {A : Around} {fl : Option Addr} {φ : Nat→Addr} {H : List O} {s : Shared} {l : List Env} {d : Nat}
variable {n : Nat} {cdv : Value} {sc : Scope} {cs : List Nat} {ρ : Lo} {env : Env}
theorem comp_loop {elt : E} {x : Nat} {cond : Option E} {pelt piter : Expr} {nm : Str} {tp p : Pos} {ifs : List Expr} {csc : Scope} {cl : List Nat} {cenv : Env} {acc : Nat} {sr : Src} {itv : Value} {φ₀ : Nat→Addr} {H₀ : List O} {s₀ : Shared} {RR : PySem.Result→Shared→Prop}
  (E0 : ∀ k,k ≤ n→SndE C k) (T0 : ∀ k,k ≤ n→SndT C k) (X : St C A l n φ H s cdv csc cl ρ cenv) (nd : (localNames csc).Nodup) (hx : (localNames csc)[x]? = some nm) (he : TrE C cdv csc elt pelt) (hif : TrL C cdv csc cond ifs)
  (x0 : ExtL C cenv.locals φ₀ H₀ s₀ φ H s) (v : SrcR C s₀.heap φ H.length s.heap sr itv) (hacc : acc < H.length) (hne : (ev n).co cl ρ elt cond x sr acc H ≠ .stuck)
  (fin : ∀ H' φ' s',(ev n).co cl ρ elt cond x sr acc H = .ok () H'→ExtL C cenv.locals φ₀ H₀ s₀ φ' H' s'→acc < H'.length→φ' acc = φ acc→Rel C φ' H' s'.heap→(∃ mm,s'.heap.Ns cenv.locals mm)→(∀ k,k < H'.length→φ' k ≠ cenv.locals)→RR (.ok .next) s') :
  codeAny (model C.prog C.w) A (.compLoop (.ListComp pelt [⟨.Name nm tp,piter,ifs,0⟩] csc p) 0 itv (.ref (φ acc)) cenv) RR s:=by
 refine codeAny_compLoop_tests (fun k s'=>k ≤ n∧TurnC C A l cdv csc cl cenv φ₀ H₀ s₀ ((ev n).co cl ρ elt cond x sr acc H) (fun k ρ' sr H'=>(ev k).co cl ρ' elt cond x sr acc H') itv acc (φ acc) k s') ?_ n ⟨Nat.le_refl _,H,φ,ρ,sr,rfl,x0,X,v,hacc,rfl⟩
 intro k s₃ zq; obtain ⟨hk,H₃,φ₃,ρ₃,sr₃,e1,x3,X3,v3,hacc3,ea3⟩:=zq
 try dsimp only at e1
 induction k using Nat.casesOn with
 | zero=>exact absurd e1 hne
 | succ k=>
  have hk' : k ≤ n:=Nat.le_of_lt hk
  rw [co_succ] at e1
  have Xd:=X3.down
  unfold coStep at e1
  refine p_next (h₀:=s₀.heap) (Z:=fun s'=>ExtL C cenv.locals φ₀ H₀ s₀ φ₃ H₃ s'∧St C A l k φ₃ H₃ s' cdv csc cl ρ₃ cenv) X.rd.han (fun T h' tk t1 t2 t3 t4=>?_) X3.r v3 (fun z=>hne (e1.trans (bind_stuck z))) ?_ ?_ ?_
  ·obtain ⟨y1,y2⟩:=touchL (tk:=tk) T x3 Xd (fun a ha=>⟨t1 a ha,t4 a ha⟩) t2 t3
   exact ⟨⟨y1,y2⟩,y2.r⟩
  ·rintro s₄ q4 ⟨x4,X4⟩ r4 _
   rw [bind_at q4] at e1
   exact fin H₃ φ₃ s₄ e1 x4 hacc3 ea3 r4 X4.en.some X4.en.off
  ·rintro s₄ u cu sr₄ q4 ⟨x4,X4⟩ r4 _ vu v4 _
   rw [bind_at q4] at e1
   refine wpAny_assign_Name (p_storeLoc X4 nd hx vu fun s₅ x5 X5=>?_)
   have v5:=v4.extL x5 X4.nonf
   have x35:=x4.trans x5
   have tests : ∀ E',wpAny (model C.prog C.w) A (forIn ifs true fun c r=>if r = true then do let ok ← isTrue c cenv (eval c cenv); pure (ForInStep.yield ok) else pure (ForInStep.yield r))
     (fun b s₆=>∃ H₆ φ₆,(ev n).co cl ρ elt cond x sr acc H = (if b then (Mp.noErr ((ev k).e cl (ρ₃.set x (some u)) elt) >>= fun y=>Mp.getO acc >>= fun o=>match o with
       | .list xs=>if xs.length < 50000 then (setO acc (.list (xs ++ [y])) >>= fun _=>(ev k).co cl (ρ₃.set x (some u)) elt cond x sr₄ acc) else Mp.stuck
       | _=>Mp.stuck) else (ev k).co cl (ρ₃.set x (some u)) elt cond x sr₄ acc) H₆∧Ext C φ₃ H₃ s₅ φ₆ H₆ s₆∧Rel C φ₆ H₆ s₆.heap) E' s₅:=by
    intro E'
    induction hif using OptL.casesOn with
    | none=>exact wpAny_tests_nil ⟨H₃,φ₃,e1,.refl ..,X5.r⟩
    | @some c pc hc=>
     have e1 : (ev n).co cl ρ elt (some c) x sr acc H = (Mp.noErr ((ev k).t cl (ρ₃.set x (some u)) c) >>= fun b=>(if b then (Mp.noErr ((ev k).e cl (ρ₃.set x (some u)) elt) >>= fun y=>Mp.getO acc >>= fun o=>match o with
       | .list xs=>if xs.length < 50000 then (setO acc (.list (xs ++ [y])) >>= fun _=>(ev k).co cl (ρ₃.set x (some u)) elt (some c) x sr₄ acc) else Mp.stuck
       | _=>Mp.stuck) else (ev k).co cl (ρ₃.set x (some u)) elt (some c) x sr₄ acc)) H₃:=e1
     refine wpAny_tests_one (wpAny_mono (Sim.noErr (T0 k hk' X5 hc) fun z=>hne (e1.trans (bind_stuck z))) ?_ fun _ _ z=>z)
     intro b s₆ zq; obtain ⟨a,H₆,φ₆,q6,x6,r6,rfl⟩:=zq
     exact in2_3 H₆ φ₆ (e1.trans (bind_at q6)) x6 r6
   refine wpAny_mono (tests _) ?_ fun _ _ z=>z
   intro b s₆ zq; (refine ex2_3 zq fun H₆ φ₆ e6 x6 r6=>?_; clear zq)
   have X6:=X5.ext x6 r6
   have v6:=v5.extL (x6.loose (L:=cenv.locals)) X5.nonf
   have x36:=x35.trans x6.loose
   cases b with
   | false=>
    rw [if_neg (by simp)] at e6 ⊢
    exact ⟨k,Nat.lt_succ_self _,hk',H₆,φ₆,_,sr₄,e6,x36,X6,v6,Nat.lt_of_lt_of_le hacc3 x6.len,(x6.phi acc hacc3).trans ea3⟩
   | true=>
    rw [if_pos rfl] at e6 ⊢
    refine wpAny_mono (Sim.noErr (E0 k hk' X6 he) fun z=>hne (e6.trans (bind_stuck z))) ?_ fun _ _ z=>z
    intro cy s₇ zq; obtain ⟨y,H₇,φ₇,q7,x7,r7,vy⟩:=zq
    have e7:=e6.trans (bind_at q7)
    have X7:=X6.ext x7 r7
    have v7:=v6.extL (x7.loose (L:=cenv.locals)) X6.nonf
    have x37:=x36.trans x7.loose
    have x67:=x6.trans x7
    have hacc7 : acc < H₇.length:=Nat.lt_of_lt_of_le hacc3 x67.len
    have ea : φ₇ acc = φ acc:=(x67.phi acc hacc3).trans ea3
    have e8 : (ev n).co cl ρ elt cond x sr acc H = (bltMeth (.ref acc) 1000 [y] >>= fun _=>(ev k).co cl (ρ₃.set x (some u)) elt cond x sr₄ acc) H₇:=by
     rw [e7]
     show _ = ((Mp.getO acc >>= fun o=>match o with
      | .list xs=>if xs.length < 50000 then (setO acc (.list (xs ++ [y])) >>= fun _=>Pure.pure V.none) else Mp.stuck
      | _=>Mp.stuck) >>= _) H₇
     rw [m_assoc]
     induction e : H₇[acc]? using Option.casesOn with
     | none=>rw [bind_stuck (by unfold Mp.getO; rw [e]),bind_stuck (by unfold Mp.getO; rw [e])]
     | some o=>
      rw [bind_at (getO_eq e),bind_at (getO_eq e)]
      induction o using Mp.O.casesOn <;> try rfl
      dsimp only
      split
      ·rw [m_assoc]; rfl
      ·rfl
    rw [← ea]
    refine wpAny_mono (p_append (fl:=none) hacc7 vy r7 fun z=>hne (e8.trans (bind_stuck z))) ?_ ?_
    ·intro cz s₈ zq; obtain ⟨z,H₈,φ₈,q8,x8,r8,_⟩:=zq
     exact ⟨k,Nat.lt_succ_self _,hk',H₈,φ₈,_,sr₄,e8.trans (bind_at q8),x37.trans x8.loose,X7.ext x8 r8,v7.extL (x8.loose (L:=cenv.locals)) X7.nonf,Nat.lt_of_lt_of_le hacc7 x8.len,x8.phi acc hacc7⟩
    ·intro cz s₈ zq; obtain ⟨z,H₈,φ₈,q8,_⟩:=zq
     have : (bltMeth (.ref acc) 1000 [y] H₇) ≠ .err z H₈:=by
      refine (?_ : (Mp.getO acc >>= _) H₇ ≠ _)
      induction e : H₇[acc]? using Option.casesOn with
      | none=>rw [bind_stuck (by unfold Mp.getO; rw [e])]; intro w; cases w
      | some o=>
       rw [bind_at (getO_eq e)]
       induction o using Mp.O.casesOn <;> try (intro w; cases w)
       dsimp only
       split <;> (intro w; cases w)
     exact absurd q8 this
  ·rintro s₄ a i u cu e itt T tk he hv q4
   rw [bind_at q4] at e1
   exact absurd e1 hne
theorem caps_some {nms : List Str} (X : St C A l n φ H s cdv sc cs ρ env) : ∀ {c : List Nat},All2 (fun (j : Nat) x=>(celNames sc)[j]? = some x) c nms→∃ cl,caps cs c = some cl:=by
 intro c h
 induction h with
 | nil=>exact ⟨[],rfl⟩
 | @cons j x r t h _ ih=>
  obtain ⟨cl,e⟩:=ih
  obtain ⟨_,m,q1,_⟩:=X.en.cel j x h
  exact ⟨m :: cl,by unfold caps; rw [q1,e]⟩
theorem snd_comp (G3 : Good3 C) (E0 : ∀ k,k ≤ n→SndE C k) (T0 : ∀ k,k ≤ n→SndT C k) (Es : SndEs C n) : SndX C (n + 1) isCompE:=by
 intro A l φ H s cdv sc cs ρ env e pe hp X he
 (refine ex6_1 hp fun elt x nl c it cond z1q=>?_; clear hp; subst z1q)
 obtain ⟨pelt,nm,tp,piter,ifs,csc,p,rfl,hit,helt,hif,hkind,hnd,hcn,hx,hnl,hc,hns⟩:=he.inv
 have e0 : (ev (n + 1)).e cs ρ (.comp elt x nl c it cond) = (src (ev n) cs ρ it >>= fun sr=>new (.list []) >>= fun acc=>opt (caps cs c) >>= fun cl=>(ev n).co cl (List.replicate nl none) elt cond x sr acc >>= fun _=>Pure.pure (.ref acc)):=rfl
 rw [e0]
 intro hne
 have X0:=X.down
 obtain ⟨cl,ecl⟩:=caps_some X0 hc
 rw [ecl] at hne ⊢
 refine ex1_2 (closes X0 hc ecl) fun clo hclo hcl=>?_
 have hcell : ∀ y ∈ csc.names,y.2 ≠ .cell:=fun y hy q=>by
  have : y.1 ∈ cellNames csc:=List.mem_filterMap.mpr ⟨y,hy,by rw [q]; rfl⟩
  rw [hcn] at this; cases this
 rw [eval_ListComp]
 refine wpAny_comprehension_free (use:=none) rfl (fun x=>fold_none hns) hclo hkind (fun y hy hl=>by rw [← hl]; exact lookup_mem hnd hy) ?_
 refine (?_ : wpAny _ _ (eval piter env) _ _ s)
 refine wpAny_mono (p_src G3 (E0 n (Nat.le_refl _)) Es X0 hit fun z=>hne (bind_stuck z)) ?_ ?_
 ·intro xv s₁ hs
  refine wpAny_mono hs ?_ fun _ _ z=>z.elim
  intro itv s₂ zq; obtain ⟨sr,H₂,φ₂,q2,x2,r2,v2⟩:=zq
  rw [bind_at q2] at hne ⊢
  have q3 : new (.list []) H₂ = .ok H₂.length (H₂ ++ [.list []]):=rfl
  rw [bind_at q3] at hne ⊢
  have q4 : opt (some cl) (H₂ ++ [.list []]) = .ok cl (H₂ ++ [.list []]):=rfl
  rw [bind_at q4] at hne ⊢
  have X2:=X0.ext x2 r2
  refine wpAny_newObj_type ?_ (by size_fits)
  generalize hob : ({ cls:=.type "list",dict:=none,data:=.seq ([] : List Value).toArray } : Obj) = ob
  obtain ⟨x3,r3⟩:=Rel.add (tk:=s₂.toks) (o:=.list []) (h':=s₂.heap.push ob) (a:=s₂.heap.objs.size) r2 (fun b o e=>Heap.get?_push_of_some _ e) (Heap.get?_push_size _ (by rw [← hob]; rfl)) (get_size_none _) (by rw [← hob]; exact .list (vs:=[]) .nil (by simp))
  have X3:=X2.ext x3 r3
  have v3:=v2.extL (x3.loose (L:=env.locals)) X2.nonf
  refine wpAny_newFunctionEnv hcell (by intro y hy; cases hy) (fun h₁ hns hsb=>?_) hkind
  dsimp only at hns hsb ⊢
  generalize hL : (s₂.heap.push ob).objs.size = L at hns hsb ⊢
  have hLn : (s₂.heap.push ob).get? L = none:=by rw [← hL]; exact get_size_none _
  have hL0 : s.heap.get? L = none:=by
   induction e : s.heap.get? L using Option.casesOn with
   | none=>rfl
   | some o=>
    obtain ⟨o',e'⟩:=(x2.trans x3).live _ _ e
    have e'' : (s₂.heap.push ob).get? L = some o':=e'
    rw [hLn] at e''; cases e''
  have g : ∀ b o,(s₂.heap.push ob).get? b = some o→h₁.get? b = some o:=fun b o e=>hsb.extBut b o (fun q=>by rw [q,hLn] at e; cases e) (Heap.get?_push_of_some _ e)
  have x4 : Ext C (addφ φ₂ H₂.length s₂.heap.objs.size) (H₂ ++ [O.list []]) { s₂ with heap:=s₂.heap.push ob } (addφ φ₂ H₂.length s₂.heap.objs.size) (H₂ ++ [O.list []]) { s₂ with heap:=h₁,toks:=s₂.toks + ([] : List (Str × Value)).length }:=grow_ext g
  have X4:=X3.ext x4 (r3.grow g)
  have v4:=v3.extL (x4.loose (L:=env.locals)) X3.nonf
  have low : Free C L:=r3.free hLn
  have off : ∀ k,k < (H₂ ++ [O.list []]).length→addφ φ₂ H₂.length s₂.heap.objs.size k ≠ L:=fun k hk q=>by
   obtain ⟨ob',w⟩:=r3.at hk
   rw [q,hLn] at w; cases w
  generalize hce : ({ newEnv csc L env.globals clo env.qual none .none (some env) builtinsNs with scope:=relabel csc env } : Env) = cenv
  have ek : ∀ x,cenv.kindOf x = (relabel csc env).names.lookup x:=fun x=>by rw [← hce]; rfl
  have eL : cenv.locals = L:=by rw [← hce]; rfl
  have en : EnvOk C (addφ φ₂ H₂.length s₂.heap.objs.size) (H₂ ++ [O.list []]).length cdv csc cl (List.replicate nl none) h₁ cenv:=by
   refine ⟨by rw [← hce]; exact hkind,by rw [← hce]; exact X.en.glo,by rw [← hce]; exact X.en.bui,by rw [← hce]; exact X.en.cod,fun i y e=>?_,fun i y e=>?_,fun y hy=>absurd rfl (hcell _ hy),fun y hy=>?_,by rw [← hce]; exact X.en.fr,?_,by rw [eL]; exact low,by rw [eL]; exact off⟩
   ·rw [ek]; exact relabel_lookup (by decide) (lookup_mem hnd (of_kind e))
   ·unfold celNames at e
    rw [hcn,List.nil_append] at e
    refine ⟨by rw [ek]; exact relabel_free (lookup_mem hnd (of_kind e)),?_⟩
    refine ex1_3 (hcl i y e) fun m m1 m2 m3=>?_
    have x23:=x2.trans x3
    exact in1_3 m m1 (Nat.lt_of_lt_of_le m2 x23.len) (by rw [x23.phi m m2,← m3,← hce]; rfl)
   ·rw [ek]; exact relabel_lookup (by decide) (lookup_mem hnd hy)
   ·refine in1_3 _ (by rw [eL]; exact hns) (by simp [hnl]) (fun i y v _ e=>?_)
    rw [List.getElem?_replicate] at e
    split at e <;> cases e
  have Xc : St C A l n (addφ φ₂ H₂.length s₂.heap.objs.size) (H₂ ++ [O.list []]) { s₂ with heap:=h₁,toks:=s₂.toks + ([] : List (Str × Value)).length } cdv csc cl (List.replicate nl none) cenv:=⟨X4.rd,X4.r,X4.st,en⟩
  have cf : cenv.frame = env.frame:=by rw [← hce]; rfl
  have key:=comp_loop (RR:=compPost (model C.prog C.w) A (ErP C env.frame φ H s (((ev n).co cl (List.replicate nl none) elt cond x sr H₂.length >>= fun _=>(Pure.pure (.ref H₂.length) : M V)) (H₂ ++ [O.list []]))) none
    (OkP C (VH C) φ H s (((ev n).co cl (List.replicate nl none) elt cond x sr H₂.length >>= fun _=>(Pure.pure (.ref H₂.length) : M V)) (H₂ ++ [O.list []]))) (.ref s₂.heap.objs.size) L)
   (piter:=piter) (tp:=tp) (p:=p) E0 T0 Xc (nodup_kind hnd) hx helt hif (((x2.trans x3).trans x4).loose) v4 (acc:=H₂.length) (by simp) (fun z=>hne (bind_stuck z)) (fun H' φ' s' q5 x5 a5 b5 r5 n5 o5=>?_)
  ·rw [addφ_at] at key
   exact codeAny_compStart_list key (iter_self v4 key)
  ·obtain ⟨mm,hn⟩:=n5
   rw [eL] at hn x5 o5
   refine in1_2 mm hn (fun h' hs'=>?_)
   have x6 : Ext C φ H s φ' H' s':=(Ext.refl φ H s).transL x5 hL0
   obtain ⟨y1,y2⟩:=loc_gone x6 r5 hL0 hn low o5 hs'
   refine ⟨.ref H₂.length,H',φ',bind_at q5,y1,y2,?_⟩
   rw [addφ_at] at b5
   exact .refE a5 b5.symm
 ·intro ce s₁ zq; obtain ⟨k,H₁,φ₁,q1,x1,r1,z1⟩:=zq
  exact ⟨k,H₁,φ₁,bind_err q1,x1,r1,z1⟩
end
section
variable {C : Cx} {A : Around} {fl : Option Addr} {φ : Nat→Addr} {H : List O} {s : Shared} {l : List Env} {d : Nat}
variable {n : Nat} {cdv : Value} {sc : Scope} {cs : List Nat} {ρ : Lo} {env : Env}
structure Good5 (C : Cx) : Prop where
 ty : typeIn C.K (.ref (C.ca 1)) = some (.type "type")
 base : mroIn C.K (C.ca 1) (.type "BaseException") = some true
 self : mroIn C.K (C.ca 1) (.ref (C.ca 1)) = some true
theorem Rel.flag {h : Heap} {m c : Nat} {dd : Option Nat} {up : Bool} (r : Rel C φ H h) (e : H[m]? = some (.exc c dd up)) : Rel C φ (H.set m (.exc c dd true)) h:=by
 have hm : m < H.length:=(List.getElem?_eq_some_iff.mp e).1
 refine ⟨fun k o q=>?_,fun a b ha hb=>r.inj a b (by simpa using ha) (by simpa using hb),fun k hk=>r.new k (by simpa using hk),r.base,fun P hP=>?_⟩
 ·rw [List.length_set]
  by_cases z : k = m
  ·subst z
   rw [List.getElem?_set_self hm] at q
   cases q
   refine ex1_2 (r.obj k _ e) fun ob h1 h2=>?_
   refine ex2_4 h2.inv fun vs sl z a b b'=>?_
   subst z
   exact in1_2 _ h1 (.exc a b (by intro w; injection w))
  ·rw [List.getElem?_set_ne (Ne.symm z)] at q
   exact r.obj k o q
 ·refine ex1_3 (r.tabs P hP) fun ps h1 h2 h3=>?_
  refine in1_3 ps h1 h2 (fun pos c' e'=>?_)
  refine ex1_3 (h3 pos c' e') fun cd a1 a3 a4=>?_
  exact in1_3 cd a1 (by rw [List.length_set]; exact a3) a4
theorem Ext.flag {m : Nat} {o : O} : Ext C φ H s φ (H.set m o) s:=by
 have x:=Ext.refl (C:=C) φ H s
 exact ⟨by simp,x.phi,fun n h1 h2=>by simp at h2; lia,x.keep,x.live,x.gens,x.os⟩
noncomputable def raiseM (v : V) : M (Fl × Lo):=match v with
 | .ref m=>getO m >>= fun o=>match o with
  | .exc c d false=>if Nat.beq c 1 then (fun H=>.err m (H.set m (.exc c d true))) else Mp.stuck
  | _=>Mp.stuck
 | _=>Mp.stuck
theorem looks_notType {M : PySem.Model} {h : Heap} {a : Addr} {ob : Obj} {vs : Array Value} (h1 : h.get? a = some ob) (hd : ob.data = .fields vs) : Looks M h (PySem.isType (.ref a)) false:=by
 unfold PySem.isType
 refine (Looks.ld (part:=none) h1).andThen ?_
 rw [hd]
 exact .now
theorem looks_type {M : PySem.Model} {h : Heap} {a : Addr} {ob : Obj} (h1 : h.get? a = some ob) : Looks M h (PySem.typeOf (.ref a)) ob.cls:=(Looks.ld h1).andThen .now
theorem looks_inst {M : PySem.Model} {h : Heap} {a K : Addr} {ob : Obj} {base : Value} {b : Bool} (X : C.K.In h) (h1 : h.get? a = some ob) (hc : ob.cls = .ref K) (e : mroIn C.K K base = some b) : Looks M h (PySem.isInstance (.ref a) base) b:=by
 refine (looks_type h1).andThen ?_
 rw [hc]
 exact looks_mroIn X e
theorem s_raise {e : E} {pe : Expr} {p : Pos} (G : Good C) (G5 : Good5 C) (E0 : SndE C n) (X : St C A l n φ H s cdv sc cs ρ env) (h : TrE C cdv sc e pe) :
  SimF C A cdv sc cs env ((ev n).e cs ρ e >>= raiseM) (exec (.Raise (some pe) none p) env) φ H s:=by
 rw [arm_exec_Raise]
 refine SimF.standAt ?_
 refine (?_ : SimF C A cdv sc cs env _ (PySem.raiseStmt env (some (eval pe env >>= fun v=>standAt p >>= fun _=>pure v)) none) φ H s)
 unfold PySem.raiseStmt
 dsimp only
 have e0 : ∀ (k : Value→Sem PySem.Flow),((eval pe env >>= fun v=>standAt p >>= fun _=>pure v) >>= k) = (eval pe env >>= fun v=>standAt p >>= fun _=>k v):=fun k=>by simp only [bind_assoc,pure_bind]
 rw [e0]
 refine SimF.bindE X (E0 X h) fun v c H₁ φ₁ s₁ q1 x1 r1 v1=>SimF.standAt ?_
 have X1:=X.ext x1 r1
 intro hne
 induction v1 <;> try exact absurd rfl hne
 rename_i m hm
 induction e1 : H₁[m]? using Option.casesOn with
 | none=>exact absurd (bind_stuck (by unfold getO; rw [e1])) hne
 | some o=>
  have e2:=bind_at (f:=fun o=>match o with
   | .exc c d false=>if Nat.beq c 1 then (fun H=>.err m (H.set m (.exc c d true))) else Mp.stuck
   | _=>(Mp.stuck : M (Fl × Lo))) (getO_eq e1)
  have e3 : raiseM (.ref m) H₁ = _:=e2
  rw [e3] at hne ⊢
  induction o <;> try exact absurd rfl hne
  rename_i c dd up
  induction up with
  | true=>exact absurd rfl hne
  | false=>
  dsimp only at hne ⊢
  by_cases hc : Nat.beq c 1 = true
  ·have hc' : c = 1:=Nat.eq_of_beq_eq_true hc
   subst hc'
   rw [if_pos hc]
   refine ex1_2 (r1.obj m _ e1) fun ob h1 h2=>?_
   refine ex2_4 h2.inv fun vs sl z a b b'=>?_
   subst z
   have K:=G.K_in r1
   have hf : vs[1]? = some Value.none:=b' rfl
   refine wpAny_bind (wpAny_pure ?_)
   refine wpAny_bind (wpAny_holding ?_)
   unfold PySem.excFromValue PySem.isExcClass
   refine wpAny_bind (wpAny_bind ((looks_notType h1 rfl).here ?_))
   rw [if_neg (by simp)]
   refine wpAny_pure ?_
   rw [if_neg (by simp)]
   refine wpAny_bind ((looks_inst K h1 rfl G5.base).here ?_)
   rw [if_pos rfl]
   refine wpAny_pure ?_
   dsimp only
   refine wpAny_bind ((looks_notType h1 rfl).here ?_)
   rw [if_neg (by simp)]
   unfold PySem.raisedInstance
   refine wpAny_bind (wpAny_bind ((looks_type h1).here ?_))
   refine wpAny_bind ((looks_typeIn K G5.ty).here ?_)
   rw [if_pos (by simp)]
   refine wpAny_pure ?_
   unfold setFlight
   refine wpAny_bind (wpAny_bind (wpAny_field h1 rfl hf ?_))
   rw [if_neg (by simp)]
   refine wpAny_pure (wpAny_raiseNew_none X.rd.han ?_)
   have rf:=r1.flag e1
   exact ⟨m,_,φ₁,rfl,Ext.flag.loose,rf,⟨rfl,⟨1,dd,List.getElem?_set_self hm⟩,_,vs,h1,rfl,.inl hf⟩,X1.en.some⟩
  ·rw [if_neg hc] at hne; exact absurd rfl hne
end
section
variable {C : Cx} {A A' : Around} {fl fl' : Option Addr} {φ : Nat→Addr} {H : List O} {s : Shared} {l : List Env} {d : Nat}
variable {n : Nat} {cdv : Value} {sc : Scope} {cs : List Nat} {ρ : Lo} {env : Env}
theorem flight_ok {M : PySem.Model} {E : Value→Shared→Prop} {ce : Value} {n : Nat} {φ₀ : Nat→Addr} {H₀ : List O} {s₀ : Shared} {Q : Unit→Shared→Prop}
  (x : Ext C φ₀ H₀ s₀ φ H s) (r : Rel C φ H s.heap) (e : ErrR C s₀.heap fl φ H n ce s.heap)
  (h : ∀ s',Ext C φ₀ H₀ s₀ φ H s'→Rel C φ H s'.heap→ErrR C s₀.heap fl' φ H n ce s'.heap→Q () s') : wpAny M A (setFlight ce none) Q E s:=by
 obtain ⟨rfl,⟨c,dd,hn⟩,oe,vs,a1,a2,a3⟩:=e
 have hlt : n < H.length:=(List.getElem?_eq_some_iff.mp hn).1
 unfold setFlight
 rcases a3 with a3 | ⟨T,oT,ts,f,a3,a4,a5,a6,a7,a8,a9,a10⟩
 ·refine wpAny_bind (wpAny_field a1 a2 a3 ?_)
  rw [if_neg (by simp)]
  exact wpAny_pure (h s x r ⟨rfl,⟨c,dd,hn⟩,oe,vs,a1,a2,.inl a3⟩)
 ·have h3:=(Array.getElem?_eq_some_iff.mp a9).1
  have hTe : T ≠ φ n:=fun q=>a6 n hlt q.symm
  refine wpAny_bind (wpAny_field a1 a2 a3 ?_)
  rw [if_pos (show (Value.ref T != Value.none) = true from by simp)]
  refine wpAny_setField a7 a8 h3 ?_
  have T1:=(Nr.refl (φ n) T [] s.heap).field (i:=3) (v:=.none) a7 a8 (.inr (.inl rfl))
  exact h _ (T1.1.ext x hlt a4 ⟨oe,vs,a1,a2⟩ fun o q=>by rw [a7] at q; cases q; exact ⟨_,a8⟩) (T1.1.rel r hn a5 a6 fun b hb=>by cases hb)
   ⟨rfl,⟨c,dd,hn⟩,oe,vs,(Heap.get?_update_other _ _ hTe).trans a1,a2,.inr ⟨T,_,_,.none,a3,a4,a5,a6,T1.2,rfl,by simp [h3],.inl rfl⟩⟩
theorem ev_glob {v : V} {nm : Str} {p : Pos} {Q : Value→Shared→Prop} {E : Value→Shared→Prop} (G3 : Good3 C) (r : Rel C φ H s.heap) (en : EnvOk C φ H.length cdv sc cs ρ s.heap env) (h : TrE C cdv sc (.glo v) (.Name nm p)) (q : ∀ cv,VR C φ H.length v cv→Q cv s) :
  wpAny (model C.prog C.w) A (eval (.Name nm p) env) Q E s:=by
 refine ex3_5 h.inv fun cv nm0 p0 eq0 h1 h2 h3 h4=>?_
 cases eq0
 have hg : s.heap.Ns env.globals C.mg:=by rw [en.glo]; exact G3.g.keeps fun b o e=>r.base b o e
 have hb : s.heap.Ns env.builtins C.mb:=by rw [en.bui]; exact G3.b.keeps fun b o e=>r.base b o e
 refine Name_function_global en.kind (en.gim _ h1) ?_ h2
 rcases h3 with h3 | ⟨h3,h5⟩
 ·exact loadGlobal_global hg h3 (q _ (h4 _ _))
 ·exact loadGlobal_builtin hg h3 hb h5 (q _ (h4 _ _))
theorem exc_fits {M : PySem.Model} {E : Value→Shared→Prop} {Q : Bool→Shared→Prop} {m : Nat} {dd : Option Nat} {up : Bool} (G : Good C) (G5 : Good5 C) (r : Rel C φ H s.heap) (e : H[m]? = some (.exc 1 dd up)) (q : Q true s) : wpAny M A (PySem.excMatches (.ref (φ m)) (.ref (C.ca 1))) Q E s:=by
 have K:=G.K_in r
 refine ex1_2 (r.obj m _ e) fun ob h1 h2=>?_
 have hcl : ob.cls = .ref (C.ca 1):=by cases h2; rfl
 refine ex1_2 (Option.bind_eq_some_iff.mp G5.self) fun cd k1 k2=>?_
 have kl : ∃ c' d' sl',C.K.lookup (C.ca 1) = some ⟨c',d',.cls cd,sl'⟩:=by
  unfold clsIn at k1
  split at k1
  ·rename_i ho; cases k1; exact in3_1 _ _ _ ho
  ·injection k1
 refine ex3_1 kl fun c' d' sl' kl=>?_
 have isT : Looks M s.heap (PySem.isType (.ref (C.ca 1))) true:=by
  unfold PySem.isType
  exact (Looks.ld (part:=none) (K _ _ kl)).andThen .now
 have f:=tc_notTuple
 have ty1 : Looks M s.heap (PySem.typeOf (.ref (C.ca 1))) (.type "type"):=looks_typeIn K G5.ty
 have ty2 : Looks M s.heap (PySem.typeOf (.ref (φ m))) (.ref (C.ca 1)):=by have:=looks_type (M:=M) h1; rw [hcl] at this; exact this
 have sb : Looks M s.heap (PySem.isSubtype (.ref (C.ca 1)) (.type "BaseException")) true:=looks_mroIn K G5.base
 have ss : Looks M s.heap (PySem.isSubtype (.ref (C.ca 1)) (.ref (C.ca 1))) true:=looks_mroIn K G5.self
 unfold PySem.excMatches PySem.isInstance PySem.isExcClass
 repeat (first | with_reducible refine ty1.here ?_ | with_reducible refine ty2.here ?_ | with_reducible refine isT.here ?_ | with_reducible refine sb.here ?_ | with_reducible refine ss.here ?_ | wp_step)
 exact q
theorem p_storeAny {M : PySem.Model} {x : Nat} {nm : Str} {v : V} {cv : Value} {Q : Unit→Shared→Prop} {E : Value→Shared→Prop} (r : Rel C φ H s.heap) (en : EnvOk C φ H.length cdv sc cs ρ s.heap env) (nd : (localNames sc).Nodup) (h1 : (localNames sc)[x]? = some nm) (hv : VR C φ H.length v cv)
  (h : ∀ s',ExtL C env.locals φ H s φ H s'→Rel C φ H s'.heap→EnvOk C φ H.length cdv sc cs (ρ.set x (some v)) s'.heap env→Q () s') : wpAny M A (PySem.storeName env nm cv) Q E s:=by
 refine ex1_2 en.ns fun m hn hr=>?_
 refine wpAny_storeName_local (en.loc x nm h1) hn (fun h' hn' hs'=>?_) (by rw [en.kind]; rfl)
 obtain ⟨x1,x2⟩:=loc_touch (tk:=s.toks + 1) r hn en.low en.off hs' hn'
 exact h _ x1 x2 (en.store hn' (hr.put nd h1 hv))
theorem p_locAny {x : Nat} {nm : Str} {p : Pos} (r : Rel C φ H s.heap) (en : EnvOk C φ H.length cdv sc cs ρ s.heap env) (h1 : (localNames sc)[x]? = some nm) (h2 : (nm == ("__debug__" : Str)) = false) : Sim C A fl (VH C) (getL ρ x) (eval (.Name nm p) env) φ H s:=by
 unfold getL
 split
 ·rename_i v e
  refine ex1_2 en.ns fun m hn hr=>?_
  refine ex1_2 (hr.2 x nm v h1 e) fun cv c1 c2=>?_
  exact Sim.val rfl c2 r fun Q E q=>wpAny_Name (wpAny_loadName_local en.kind (en.loc x nm h1) hn c1 q) h2
 ·exact Sim.stuck
theorem p_attrAny {x m : Nat} {nm : Str} {p p' : Pos} (G : Good C) (XG : ExcGet C) (r : Rel C φ H s.heap) (en : EnvOk C φ H.length cdv sc cs ρ s.heap env) (h1 : (localNames sc)[x]? = some nm) (h2 : (nm == ("__debug__" : Str)) = false) :
  Sim C A fl (VH C) (getL ρ x >>= fun o=>getA methT o m) (eval (.Attribute (.Name nm p) (C.an m) p') env) φ H s:=by
 have e : eval (.Attribute (.Name nm p) (C.an m) p') env = eval (.Name nm p) env >>= fun o=>standAt p'.atName >>= fun _=>(holding [o] (getAttr o (C.an m) true)) >>= fun r=>PySem.letTemporaryGo (.Name nm p) o r >>= fun _=>pure r:=rfl
 rw [e]
 refine Sim.bind (p_locAny r en h1 h2) fun x cx H₁ φ₁ s₁ q1 x1 r1 v1=>Sim.standAt ?_
 exact Sim.tail (Sim.holding (p_getA G XG v1 r1 true)) fun a c H₃ φ₃ s₃ q3 x3 r3 v3=>let_go r3 v3
theorem s_try {e : E} {c x x' m : Nat} {pe : Expr} {cnm nm nm' : Str} {p p1 p2 p3 p4 cp hp : Pos} (G : Good C) (G3 : Good3 C) (G5 : Good5 C) (XG : ExcGet C) (E0 : SndE C n) (X : St C A (env :: l) n φ H s cdv sc cs ρ env) (nd : (localNames sc).Nodup) (he : TrE C cdv sc e pe) (hc : c = 1) (hcls : TrE C cdv sc (.glo (.cls c)) (.Name cnm cp)) (hx : (localNames sc)[x]? = some nm)
  (hx' : (localNames sc)[x']? = some nm') (hd : (nm' == ("__debug__" : Str)) = false) :
  SimF C A cdv sc cs env (sStep methT isC (ev n) cs ρ (.tryx e c x (.attr (.loc x') m))) (exec (.Try [.Return (some pe) p1] [.ExceptHandler (some (.Name cnm cp)) (some nm) [.Return (some (.Attribute (.Name nm' p3) (C.an m) p4)) p2] hp] [] [] p) env) φ H s:=by
 intro hne
 subst hc
 obtain ⟨L,hL⟩:=X.en.fr
 refine wpAny_Try_except ?_
 rw [execs_cons,exec_Return_some]
 have hm0 : sStep methT isC (ev n) cs ρ (.tryx e 1 x (.attr (.loc x') m)) H = (match (ev n).e cs ρ e H with
  | .stuck=>.stuck
  | .ok v H'=>.ok (.ret v,ρ) H'
  | .err n_1 H'=>match H'[n_1]? with
   | some (.exc d _ _)=>if Nat.beq 1 d && Nat.blt x ρ.length then (match (ev n).e cs (ρ.set x (some (.ref n_1))) (.attr (.loc x') m) H' with
     | .ok v H₂=>.ok (.ret v,List.replicate ρ.length none) H₂
     | _=>.stuck) else .stuck
   | _=>.stuck):=rfl
 rw [hm0] at hne ⊢
 have hne1 : (ev n).e cs ρ e H ≠ .stuck:=fun z=>by rw [z] at hne; exact hne rfl
 refine wpAny_bind (wpAny_bind (wpAny_standAt (wpAny_bind (wpAny_mono (E0 X he hne1) ?_ ?_))))
 ·intro cv s₁ zq; obtain ⟨v,H₁,φ₁,q1,x1,r1,v1⟩:=zq
  rw [q1]
  exact wpAny_pure (wpAny_pure ⟨.ret v,ρ,H₁,φ₁,rfl,x1.loose,r1,X.en.ext x1,v1⟩)
 ·intro ce s₁ zq; obtain ⟨k,H₁,φ₁,q1,x1,r1,z1⟩:=zq
  rw [q1] at hne ⊢
  rw [hL] at z1
  refine leave_ok2 (fl:=none) X.rd.fr hL x1 r1 (X.st.ext x1) z1 fun s₃ x3 r3 z3=>?_
  (refine ex0_3 (id z3) fun z1q z2q air=>?_; subst z1q; obtain ⟨c',d',hk⟩:=z2q)
  dsimp only at hne ⊢
  rw [hk] at hne ⊢
  dsimp only at hne ⊢
  by_cases hb : (Nat.beq 1 c' && Nat.blt x ρ.length) = true
  ·rw [if_pos hb] at hne ⊢
   rw [Bool.and_eq_true] at hb
   have:=Nat.eq_of_beq_eq_true hb.1
   subst this
   refine wpAny_handleBy_cons (codeAny_handlers_test ?_) (by intro q; injection q)
   refine ev_glob G3 r3 (X.en.ext x3) hcls fun cv vcv=>?_
   cases vcv
   refine exc_fits G G5 r3 hk ?_
   refine codeAny_handlers_suite_as (flight_ok (fl':=none) x3 r3 z3 fun s₄ x4 r4 z4=>?_)
   have en4:=X.en.ext x4
   refine p_storeAny r4 en4 nd hx (.ref k (List.getElem?_eq_some_iff.mp hk).1) fun s₅ x5 r5 en5=>?_
   rw [execs_cons,exec_Return_some]
   have hne2 : (ev n).e cs (ρ.set x (some (.ref k))) (.attr (.loc x') m) H₁ ≠ .stuck:=fun z=>by rw [z] at hne; exact hne rfl
   have e2 : (ev n).e cs (ρ.set x (some (.ref k))) (.attr (.loc x') m) H₁ = (getL (ρ.set x (some (.ref k))) x' >>= fun o=>getA methT o m) H₁:=by
    induction n with
    | zero=>exact absurd rfl hne2
    | succ n=>
     induction n using Nat.casesOn with
     | zero=>exact absurd rfl hne2
     | succ n=>rfl
   rw [e2] at hne hne2 ⊢
   refine wpAny_bind (wpAny_bind (wpAny_standAt (wpAny_bind (wpAny_mono (p_attrAny (fl:=none) G XG r5 en5 hx' hd hne2) ?_ ?_))))
   ·intro cv s₆ zq; obtain ⟨v,H₆,φ₆,q6,x6,r6,v6⟩:=zq
    rw [q6]
    refine wpAny_pure (wpAny_pure ?_)
    have en6:=en5.ext x6
    refine ex1_2 en6.ns fun mm hn _=>?_
    refine (?_ : wpAny _ _ _ _ _ s₆)
    refine wpAny_nameGoes (X.en.loc x nm hx) hn (by rw [X.en.kind]; rfl) fun h' m' hn' hs'=>?_
    obtain ⟨y1,y2⟩:=loc_touch (tk:=s₆.toks + 1) r6 hn en6.low en6.off hs' hn'
    refine ⟨.ret v,_,H₆,φ₆,rfl,((x4.loose.trans x5).trans x6.loose).trans y1,y2,en6.store hn' ⟨?_,fun i y w _ e=>?_⟩,v6⟩
    ·refine ex1_3 X.en.ns fun _ _ h1 _=>?_
     rw [List.length_replicate]; exact h1
    ·rw [List.getElem?_replicate] at e
     split at e <;> cases e
   ·intro ce s₆ zq; obtain ⟨k',H₆,φ₆,q6,_⟩:=zq
    rw [q6] at hne
    exact absurd rfl hne
  ·rw [if_neg hb] at hne; exact absurd rfl hne
end
section
variable {C : Cx} {A A' : Around} {fl fl' : Option Addr} {φ : Nat→Addr} {H : List O} {s : Shared} {l : List Env} {d : Nat}
variable {n : Nat} {cdv : Value} {sc : Scope} {cs : List Nat} {ρ : Lo} {env : Env}
theorem filterMap_short {α β : Type} {f : α→Option β} : ∀ {l : List α},(∃ x,x ∈ l∧f x = none)→(l.filterMap f).length < l.length
 | [],⟨x,h,_⟩=>by cases h
 | y :: l,⟨x,h,e⟩=>by
  induction hy : f y using Option.casesOn with
  | none=>
   rw [List.filterMap_cons_none hy]
   have:=List.length_filterMap_le f l
   simp only [List.length_cons]; lia
  | some z=>
   rw [List.filterMap_cons_some hy]
   rcases List.mem_cons.mp h with q | q
   ·subst q; rw [hy] at e; injection e
   ·have:=filterMap_short ⟨x,q,e⟩
    simp only [List.length_cons]; lia
theorem unswapped {h : Heap} {N : Nat} {ts : List T} {pts : List Expr} {pe : Expr} {kk : Nat} {p1 : Pos} (en : EnvOk C φ N cdv sc cs ρ h env) (ht : All2 (TrT C cdv sc) ts pts) (hn : ts.any (fun t=>!isLoc t) = true ∨ 3 < ts.length) :
  PySem.swappedStores [.Tuple pts kk p1] pe env = pure none:=by
 unfold PySem.swappedStores
 induction pe using Expr.casesOn <;> try rfl
 rename_i vs k2 p2
 dsimp only
 split
 ·rfl
 rename_i h1
 rcases hn with hn | hn
 ·split
  ·rfl
  have hs : ∃ x,x ∈ pts∧(match x with
    | Expr.Name id pos=>if (env.kindOf id == some PySem.NameKind.local && pos.line == (Option.map (fun x=>x.pos.line) pts.head?).getD 0) = true then some id else none
    | _=>none) = none:=by
   rw [List.any_eq_true] at hn
   (refine ex1_2 hn fun t h2 h3=>?_; clear hn)
   have : ∀ {ts : List T} {pts : List Expr},All2 (TrT C cdv sc) ts pts→t ∈ ts→∃ x,x ∈ pts∧TrT C cdv sc t x:=by
    intro ts pts q
    induction q with
    | nil=>intro h; cases h
    | @cons a b _ _ hab _ ih=>
     intro h
     rcases List.mem_cons.mp h with e | h
     ·subst e; exact in1_2 b (.head _) hab
     ·refine ex1_2 (ih h) fun x y z=>?_; exact in1_2 x (.tail _ y) z
   refine ex1_2 (this ht h2) fun x h4 h5=>?_
   refine in1_2 x h4 ?_
   induction h5 with
   | loc=>injection h3
   | cel h6 h7=>simp [en.own _ h7]
   | attr=>rfl
   | sub=>rfl
  have:=filterMap_short hs
  rw [if_pos]
  rw [Bool.or_eq_true]
  left
  rw [bne_iff_ne]
  exact Nat.ne_of_lt this
 ·exfalso
  apply h1
  have hl:=ht.length
  rw [Bool.or_eq_true,Bool.or_eq_true]
  left; left
  have a1 : (pts.length == 2) = false:=by rw [beq_eq_false_iff_ne]; lia
  have a2 : (pts.length == 3) = false:=by rw [beq_eq_false_iff_ne]; lia
  rw [a1,a2]; rfl
theorem swapped {h : Heap} {N : Nat} {a b : Nat} {na nb : Str} {pa pb : Pos} {v1 v2 : Expr} {kk k2 : Nat} {p1 p2 : Pos} (en : EnvOk C φ N cdv sc cs ρ h env) (ha : (localNames sc)[a]? = some na) (hb : (localNames sc)[b]? = some nb) (hab : na ≠ nb) (hl : pa.line = pb.line)
  (hs : (notStar v1 && notStar v2) = true) (hf : (PySem.foldedForSure 8 v1 && PySem.foldedForSure 8 v2) = false) (hc : (PySem.constantsAlone 8 v1 && PySem.constantsAlone 8 v2) = false) :
  PySem.swappedStores [.Tuple [.Name na pa,.Name nb pb] kk p1] (.Tuple [v1,v2] k2 p2) env = pure (some [na,nb]):=by
 unfold PySem.swappedStores
 dsimp only
 have e1:=en.loc a na ha
 have e2:=en.loc b nb hb
 have e3 : env.blockKind = .function:=by
  unfold Env.blockKind
  rw [en.kind]; rfl
 have e4 : (Expr.Name na pa).pos.line = pb.line:=hl
 have e5 : ∀ f : Expr→Bool,f v1 = false→f v2 = false→[v1,v2].any f = false:=fun f h1 h2=>by
  refine (?_ : (f v1 || (f v2 || false)) = false)
  rw [h1,h2]; rfl
 rw [Bool.and_eq_true] at hs
 rw [e3]
 have e6 : (na == nb) = false:=beq_eq_false_iff_ne.mpr hab
 have e7 : (nb == na) = false:=beq_eq_false_iff_ne.mpr (Ne.symm hab)
 rw [if_neg (by simp)]
 rw [e5 _ (by induction v1 using Expr.casesOn <;> first | rfl | exact absurd (show false = true from hs.1) Bool.false_ne_true) (by induction v2 using Expr.casesOn <;> first | rfl | exact absurd (show false = true from hs.2) Bool.false_ne_true)]
 rw [if_neg (by simp)]
 have e8 : ∀ f : Expr→Option Str,f (.Name na pa) = some na→f (.Name nb pb) = some nb→List.filterMap f [.Name na pa,.Name nb pb] = [na,nb]:=fun f h1 h2=>by
  rw [List.filterMap_cons_some h1,List.filterMap_cons_some h2]; rfl
 rw [e8 _ (by simp [e1,e4,hl]) (by simp [e2,e4])]
 rw [if_neg (by simp [List.eraseDups_cons,e6,e7]),if_neg (by simpa using hf),if_neg (by simpa using hc)]
theorem two_of {α : Type} {l : List α} (h : l.length = 2) : ∃ a b,l = [a,b]:=
 (List.exists_cons_of_length_eq_add_one h).elim fun a e=>e.elim fun t e=>
  (List.exists_cons_of_length_eq_add_one (Nat.succ.inj ((congrArg List.length e).symm.trans h))).elim fun b e2=>e2.elim fun u e2=>
   ⟨a,b,by rw [e,e2,List.eq_nil_of_length_eq_zero (Nat.succ.inj ((congrArg List.length e2).symm.trans (Nat.succ.inj ((congrArg List.length e).symm.trans h))))]⟩
theorem set_comm {ρ : Lo} {a b : Nat} {x y : Option V} (h : a ≠ b) : (ρ.set a x).set b y = (ρ.set b y).set a x:=List.set_comm _ _ h
theorem s_asgT2 {a b : Nat} {na nb : Str} {e : E} {pa pb : Pos} {v1 v2 : Expr} {kk k2 : Nat} {p p1 p2 : Pos} (E0 : SndE C n) (X : St C A l n φ H s cdv sc cs ρ env) (nd : (localNames sc).Nodup) (h : TrE C cdv sc e (.Tuple [v1,v2] k2 p2))
  (ha : (localNames sc)[a]? = some na) (hb : (localNames sc)[b]? = some nb) (hab : na ≠ nb) (hl : pa.line = pb.line)
  (hs : (notStar v1 && notStar v2) = true) (hf : (PySem.foldedForSure 8 v1 && PySem.foldedForSure 8 v2) = false) (hc : (PySem.constantsAlone 8 v1 && PySem.constantsAlone 8 v2) = false) :
  SimF C A cdv sc cs env ((ev n).e cs ρ e >>= fun v=>match v with
   | .ref m=>getO m >>= fun o=>match o with
    | .tup xs=>if Nat.beq xs.length [T.loc a,.loc b].length then (asgAll methT (ev n) cs ρ [.loc a,.loc b] xs >>= fun ρ'=>Pure.pure (.nxt,ρ')) else Mp.stuck
    | _=>Mp.stuck
   | _=>Mp.stuck) (exec (.Assign [.Tuple [.Name na pa,.Name nb pb] kk p1] (.Tuple [v1,v2] k2 p2) p) env) φ H s:=by
 have hsw : PySem.swapsWithSole [.Tuple [.Name na pa,.Name nb pb] kk p1] (.Tuple [v1,v2] k2 p2) p.line env = pure false:=by
  refine (?_ : PySem.swapsWith (.Tuple [v1,v2] k2 p2) (some (.Tuple [.Name na pa,.Name nb pb] kk p1)) p.line env = pure false)
  exact swaps_none rfl
 rw [arm_exec_Assign,hsw,swapped X.en ha hb hab hl hs hf hc]
 refine SimF.standAt ?_
 rw [pure_bind,if_neg (by simp)]
 refine SimF.bindE X (E0 X h) fun v c H₁ φ₁ s₁ q1 x1 r1 vr=>?_
 rw [pure_bind]
 have X1:=X.ext x1 r1
 induction vr <;> try exact SimF.stuck
 rename_i m hm
 intro hne
 induction e1 : H₁[m]? using Option.casesOn with
 | none=>exact absurd (bind_stuck (by unfold getO; rw [e1])) hne
 | some o=>
  have e2:=bind_at (f:=fun o=>match o with
    | .tup xs=>if Nat.beq xs.length [T.loc a,.loc b].length then (asgAll methT (ev n) cs ρ [.loc a,.loc b] xs >>= fun ρ'=>(Pure.pure (.nxt,ρ') : M (Fl × Lo))) else Mp.stuck
    | _=>(Mp.stuck : M (Fl × Lo))) (getO_eq e1)
  have hne : (getO m >>= fun o=>match o with
    | .tup xs=>if Nat.beq xs.length [T.loc a,.loc b].length then (asgAll methT (ev n) cs ρ [.loc a,.loc b] xs >>= fun ρ'=>(Pure.pure (.nxt,ρ') : M (Fl × Lo))) else Mp.stuck
    | _=>(Mp.stuck : M (Fl × Lo))) H₁ ≠ .stuck:=hne
  refine (?_ : wpAny _ _ _ (OkF _ _ _ _ _ _ _ _ ((getO m >>= fun o=>match o with
    | .tup xs=>if Nat.beq xs.length [T.loc a,.loc b].length then (asgAll methT (ev n) cs ρ [.loc a,.loc b] xs >>= fun ρ'=>(Pure.pure (.nxt,ρ') : M (Fl × Lo))) else Mp.stuck
    | _=>(Mp.stuck : M (Fl × Lo))) H₁)) _ _)
  rw [e2] at hne ⊢
  obtain ⟨xs,rfl⟩:=only_tup hne
  refine ex1_2 (tup_at r1 e1) fun vs t1 t2=>?_
  by_cases hl : Nat.beq xs.length [T.loc a,.loc b].length = true
  ·dsimp only at hne ⊢
   rw [if_pos hl] at hne ⊢
   have hlen:=Nat.eq_of_beq_eq_true hl
   (refine ex2_1 (two_of hlen) fun u w z1q=>?_; subst z1q)
   cases t2 with
   | @cons _ cu _ _ vu t3=>
   cases t3 with
   | @cons _ cw _ _ vw t4=>
   cases t4
   have ne : a ≠ b:=fun q=>by subst q; rw [ha] at hb; cases hb; exact hab rfl
   have e3 : asgAll methT (ev n) cs ρ [.loc a,.loc b] [u,w] = (if a < ρ.length then (if b < ρ.length then Pure.pure ((ρ.set a (some u)).set b (some w)) else Mp.stuck) else Mp.stuck : M Lo):=by
    refine (?_ : ((if a < ρ.length then Pure.pure (ρ.set a (some u)) else Mp.stuck : M Lo) >>= fun ρ'=>((if b < ρ'.length then Pure.pure (ρ'.set b (some w)) else Mp.stuck : M Lo) >>= fun ρ''=>Pure.pure ρ'')) = _)
    split
    ·refine (?_ : ((if b < (ρ.set a (some u)).length then Pure.pure ((ρ.set a (some u)).set b (some w)) else Mp.stuck : M Lo) >>= fun ρ''=>Pure.pure ρ'') = _)
     rw [List.length_set]
     split <;> rfl
    ·rfl
   rw [e3] at hne ⊢
   by_cases h1 : a < ρ.length
   ·by_cases h2 : b < ρ.length
    ·rw [if_pos h1,if_pos h2]
     refine wpAny_bind (wpAny_rule (wpAny_bind ?_))
     refine wpAny_unpackItems_tuple (items:=#[cu,cw]) X.rd.han t1 fun h' g=>?_
     have gr : ∀ b o,s₁.heap.get? b = some o→h'.get? b = some o:=fun b o e=>g b o (fun q=>by subst q; exact absurd (Heap.lt_size e) (Nat.lt_irrefl _)) e
     have x2 : Ext C φ₁ H₁ s₁ φ₁ H₁ { s₁ with heap:=h' }:=grow_ext (tk:=s₁.toks) gr
     have X2:=X1.ext x2 (X1.r.grow gr)
     refine (?_ : wpAny _ _ ((holding [cu] (PySem.bindName env nb cw) >>= fun _=>holding [] (PySem.bindName env na cu) >>= fun _=>pure ()) >>= fun _=>pure PySem.Flow.next) _ _ _)
     refine wpAny_bind (wpAny_bind (wpAny_holding (p_bindLoc X2 nd hb vw fun s₃ x3 X3=>wpAny_bind (wpAny_holding (p_bindLoc X3 nd ha vu fun s₄ x4 X4=>wpAny_pure (wpAny_pure ?_))))))
     refine ⟨.nxt,_,H₁,φ₁,rfl,(x2.loose.trans x3).trans x4,X4.r,?_,trivial⟩
     rw [set_comm ne]
     exact X4.en
    ·rw [if_pos h1,if_neg h2] at hne; exact absurd rfl hne
   ·rw [if_neg h1] at hne; exact absurd rfl hne
  ·dsimp only at hne
   rw [if_neg hl] at hne
   exact absurd rfl hne
end
section
variable {C : Cx} {A A' : Around} {fl fl' : Option Addr} {φ : Nat→Addr} {H : List O} {s : Shared} {l : List Env} {d : Nat}
variable {n : Nat} {cdv : Value} {sc : Scope} {cs : List Nat} {ρ : Lo} {env : Env}
class inductive TrS (C : Cx) (cdv : Value) (sc : Scope) : S→Stmt→Prop
 | oth {ps} : TrS C cdv sc .oth ps
 | ex {e pe p} : TrE C cdv sc e pe→notComp pe = true→TrS C cdv sc (.ex e) (.Expr pe p)
 | asg {t e pt pe p} : TrE C cdv sc e pe→TrT C cdv sc t pt→(notComp pe = true ∨ ∃ x,t = .cel x)→TrS C cdv sc (.asg t e) (.Assign [pt] pe p)
 | asgT {ts e pts pe kk p p1} : All2 (TrT C cdv sc) ts pts→TrE C cdv sc e pe→notComp pe = true→(ts.any (fun t=>!isLoc t) = true ∨ 3 < ts.length)→TrS C cdv sc (.asgT ts e) (.Assign [.Tuple pts kk p1] pe p)
 | asgT2 {a b : Nat} {na nb : Str} {e : E} {pa pb : Pos} {v1 v2 : Expr} {kk k2 : Nat} {p p1 p2 : Pos} : TrE C cdv sc e (.Tuple [v1,v2] k2 p2)→(localNames sc)[a]? = some na→(localNames sc)[b]? = some nb→na ≠ nb→pa.line = pb.line →
   (notStar v1 && notStar v2) = true→(PySem.foldedForSure 8 v1 && PySem.foldedForSure 8 v2) = false→(PySem.constantsAlone 8 v1 && PySem.constantsAlone 8 v2) = false→TrS C cdv sc (.asgT [.loc a,.loc b] e) (.Assign [.Tuple [.Name na pa,.Name nb pb] kk p1] (.Tuple [v1,v2] k2 p2) p)
 | augL {x : Nat} {nm : Str} {o e pe p p1} : (localNames sc)[x]? = some nm→TrE C cdv sc e pe→TrS C cdv sc (.augL x o e) (.AugAssign (.Name nm p1) (opOf o) pe p)
 | augA {b e m o pb pe p p1} : TrE C cdv sc b pb→TrE C cdv sc e pe→TrS C cdv sc (.augA b m o e) (.AugAssign (.Attribute pb (C.an m) p1) (opOf o) pe p)
 | ite {c a b pc pa pb p} : TrE C cdv sc c pc→All2 (TrS C cdv sc) a pa→All2 (TrS C cdv sc) b pb→TrS C cdv sc (.ite c a b) (.If pc pa pb p)
 | wh {c b pc pb p} : TrE C cdv sc c pc→All2 (TrS C cdv sc) b pb→TrS C cdv sc (.wh c b) (.While pc pb [] p)
 | fo1 {x : Nat} {nm : Str} {it b pit pb p tp} : (localNames sc)[x]? = some nm→TrE C cdv sc it pit→notSet pit = true→All2 (TrS C cdv sc) b pb→TrS C cdv sc (.fo [.loc x] it b) (.For (.Name nm tp) pit pb [] p)
 | fo2 {x y : Nat} {pts it b pit pb kk p tp} : All2 (TrT C cdv sc) [.loc x,.loc y] pts→TrE C cdv sc it pit→notSet pit = true→All2 (TrS C cdv sc) b pb→TrS C cdv sc (.fo [.loc x,.loc y] it b) (.For (.Tuple pts kk tp) pit pb [] p)
 | ret {e pe p} : TrE C cdv sc e pe→TrS C cdv sc (.ret e) (.Return (some pe) p)
 | raise {e pe p} : TrE C cdv sc e pe→TrS C cdv sc (.raise e) (.Raise (some pe) none p)
 | tryx {e : E} {c x x' m : Nat} {pe : Expr} {cnm nm nm' : Str} {p p1 p2 p3 p4 cp hp : Pos} : TrE C cdv sc e pe→c = 1→TrE C cdv sc (.glo (.cls c)) (.Name cnm cp)→(localNames sc)[x]? = some nm→(localNames sc)[x']? = some nm'→(nm' == ("__debug__" : Str)) = false →
   TrS C cdv sc (.tryx e c x (.attr (.loc x') m)) (.Try [.Return (some pe) p1] [.ExceptHandler (some (.Name cnm cp)) (some nm) [.Return (some (.Attribute (.Name nm' p3) (C.an m) p4)) p2] hp] [] [] p)
 | brk {p} : TrS C cdv sc .brk (.Break p)
 | pass {p} : TrS C cdv sc .pass (.Pass p)
 | defn {k : Nat} {c : List Nat} {t : T} {name bind : Str} {a : List PySem.Arg} {body : List Stmt} {lsc : Scope} {P cd : Addr} {p p1 : Pos} {ts : Option Scope} : isC k = true→C.par k = ⟨[],a,none,[],[],none,[]⟩→C.bod k = .stmts body→C.sco k = lsc→(∀ x,x ∈ a→x.annotation = none) →
   All2 (fun (j : Nat) x=>(celNames sc)[j]? = some x) c (freeNames lsc)→C.cod k = .none→cdv = .ref cd→CodeHd C.base cd P→P ∈ C.tabs→TrT C cdv sc t (.Name bind p1)→TrS C cdv sc (.defn t k c) (.FunctionDef name ⟨[],a,none,[],[],none,[]⟩ body [] none [] lsc ts bind p)
structure Gd (C : Cx) : Prop where
 g : Good C
 g2 : Good2 C
 g4 : Good4 C
 g5 : Good5 C
 xg : ExcGet C
 xs : ExcSet C
 xs0 : ExcSet0 C
 bi : BiOk C
 bod : ∀ k,isB k = true ∨ isC k = true→match (fnT k).body,C.bod k with
  | .inl b,.stmts pb=>All2 (TrS C (C.cod k) (C.sco k)) b pb
  | .inr e,.expr pe=>TrE C (C.cod k) (C.sco k) e pe
  | _,_=>False
structure All (C : Cx) (n : Nat) : Prop where
 e : SndE C n
 t : SndT C n
 es : SndEs C n
 o : SndO C n
 an : SndAnd C n
 s : SndS C n (TrS C)
 ss : SndSs C n (TrS C)
 fn : FnOk C n (ev n)
theorem snd_s (D : Gd C) (I : ∀ k,k ≤ n→All C k) : SndS C (n + 1) (TrS C):=by
 intro A l φ H s cdv sc cs ρ env st ps X nd h
 have I0:=I n (Nat.le_refl _)
 have X0:=X.down
 induction h using TrS.casesOn with
 | oth=>exact SimF.stuck
 | ex h1 h2=>exact s_ex I0.e X0 h1 h2
 | asg h1 h2 h3=>exact s_asg D.g D.xs D.xs0 I0.e X0 nd h1 h2 h3
 | asgT h1 h2 h3 h4=>exact s_asgT D.g D.xs D.xs0 I0.e X0 nd h1 h2 h3 (unswapped X.en h1 h4)
 | asgT2 h1 h2 h3 h4 h5 h6 h7 h8=>exact s_asgT2 I0.e X0 nd h1 h2 h3 h4 h5 h6 h7 h8
 | augL h1 h2=>exact s_augL I0.e X0 nd h1 h2
 | augA h1 h2=>exact s_augA D.g D.xg D.xs D.xs0 I0.e X0 h1 h2
 | ite h1 h2 h3=>exact s_ite I0.t I0.ss X0 nd h1 h2 h3
 | wh h1 h2=>exact s_wh (fun k hk=>(I k (Nat.le_of_lt hk)).t) (fun k hk=>(I k (Nat.le_of_lt hk)).ss) X0 nd h1 h2
 | fo1 h1 h2 h3 h4=>exact s_fo1 D.g D.g4.toGood3 D.xs D.xs0 (fun k hk=>(I k hk).e) I0.es (fun k hk=>(I k (Nat.le_of_lt hk)).ss) X0 nd h1 h2 h3 h4
 | fo2 h1 h2 h3 h4=>exact s_fo2 D.g D.g4.toGood3 D.xs D.xs0 (fun k hk=>(I k hk).e) I0.es (fun k hk=>(I k (Nat.le_of_lt hk)).ss) X0 nd h1 h2 h3 h4
 | ret h1=>exact s_ret I0.e X0 h1
 | raise h1=>exact s_raise D.g D.g5 I0.e X0 h1
 | tryx h1 h2 h3 h4 h5 h6=>exact s_try D.g D.g4.toGood3 D.g5 D.xg I0.e X0 nd h1 h2 h3 h4 h5 h6
 | brk=>
  rw [arm_exec_Break]
  exact SimF.standAt (SimF.pure X0 trivial)
 | pass=>
  rw [arm_exec_Pass]
  exact SimF.standAt (SimF.pure X0 trivial)
 | @defn k c t name bind a body lsc P cd p p1 ts h1 h2 h3 h4 h5 h6 h7 h8 h9 h10 h11=>
  have e0 : (ev (n + 1)).s cs ρ (.defn t k c) = (if isC k then (opt (caps cs c) >>= fun l=>new (.clo k l) >>= fun f=>asgM methT (ev n) cs ρ (.ref f) t >>= fun ρ'=>Pure.pure (.nxt,ρ')) else Mp.stuck):=rfl
  rw [e0,if_pos h1]
  exact s_def D.g D.g2 D.g4 D.xs D.xs0 I0.e X0 nd h1 h2 h3 h4 h5 h6 h7 h8 h9 h10 h11
theorem snd_fn (D : Gd C) (I : All C n) : FnOk C (n + 1) (ev (n + 1)):=by
 intro A fl φ H s l k cl a as vals rd r st hk c va
 have S:=D.g2.fnS k hk
 refine call_fn (ih:=ev n) (fns:=fnT) D.g2.lim S c r st rd va ?_
 intro A' env φ' H' s' ρ cs' rd' r' st' en' hf
 have hb:=D.bod k hk
 have nd : (localNames (C.sco k)).Nodup:=nodup_kind S.nam
 split
 ·rename_i b pb e1 e2
  rw [e1,e2] at hb
  exact (I.ss ⟨rd',r',st',en'⟩ nd hb).simS
 ·rename_i e pe e1 e2
  rw [e1,e2] at hb
  exact I.e ⟨rd',r',st',en'⟩ hb
 ·rename_i n1 n2
  split at hb
  ·rename_i e1 e2; exact n1 _ _ e1 e2
  ·rename_i e1 e2; exact n2 _ _ e1 e2
  ·exact hb
theorem all0 : All C 0 where
 e:=fun _ _=>Sim.stuck
 t:=fun _ _=>Sim.stuck
 es:=fun _ _ _=>Sim.stuck
 o:=fun _ _=>Sim.stuck
 an:=fun _ _=>⟨Sim.stuck,Sim.stuck,Sim.stuck,Sim.stuck⟩
 s:=fun _ _ _=>SimF.stuck
 ss:=fun _ _ _=>SimF.stuck
 fn:=fun _ _ _ _ _ _=>fun hne=>absurd rfl hne
theorem all_snd (D : Gd C) : ∀ n,∀ k,k ≤ n→All C k
 | 0,k,hk=>by
  have : k = 0:=Nat.le_zero.mp hk
  subst this; exact all0
 | n + 1,k,hk=>by
  have I:=all_snd D n
  by_cases h : k ≤ n
  ·exact I k h
  ·have : k = n + 1:=by lia
   subst this
   have I0:=I n (Nat.le_refl _)
   have G3:=D.g4.toGood3
   exact {
    e:=snd_e D.g G3 D.xg I0.e I0.t I0.es I0.o I0.an (snd_call D.g D.g2 I0.fn I0.e I0.es) (snd_meth D.g D.g2 D.bi I0.fn I0.e I0.es) (snd_lam D.g D.g2 D.g4) (snd_comp G3 (fun k hk=>(I k hk).e) (fun k hk=>(I k hk).t) I0.es)
    t:=snd_t I0.e I0.t I0.an
    es:=snd_es I0.e I0.es
    o:=snd_o I0.e
    an:=snd_and I0.e I0.t I0.an
    s:=snd_s D I
    ss:=snd_ss I0.s I0.ss
    fn:=snd_fn D I0 }
end
section
variable {C : Cx} {A A' : Around} {fl fl' : Option Addr} {φ : Nat→Addr} {H : List O} {s : Shared} {l : List Env} {d : Nat}
section
variable {prog : Program} {w : World} {E : Value→Shared→Prop} {K : Frag} {x Cl : Addr} {ox : Obj} {od : Option Obj} {name : Str} {v : Value} {expr : Bool}
theorem ga_kind : builtinKind "BaseException.__getattribute__" = some .slot:=by decide +kernel
theorem ga_split : splitId "BaseException.__getattribute__" = some ("BaseException","__getattribute__"):=by decide +kernel
theorem ga_check1 {M : PySem.Model} {x nm : Value} {s' : Shared} {Q : Unit→Shared→Prop} (typ : Looks M s'.heap (PySem.isInstance x (.type "BaseException")) true) (q : Q () s') (ha : argsOk "BaseException.__getattribute__" ⟨x :: [nm],[]⟩) : wpAny M A (checkBuiltinCall "BaseException.__getattribute__" ⟨[x,nm],[]⟩) Q E s':=by
 have:=@check_slot M A E s' "BaseException.__getattribute__" "BaseException" "__getattribute__" x [nm] [] Q ga_kind ga_split typ
 have this:=this ha
 exact this q
theorem ga_check {M : PySem.Model} {s' : Shared} {tk : Nat} {Q : Unit→Shared→Prop} (X : K.In s'.heap) (I : InstAt s'.heap x ox Cl od) (hb : mroIn K Cl (.type "BaseException") = some true) (q : Q () s') : wpAny M A (checkBuiltinCall "BaseException.__getattribute__" ⟨[.ref x,.str name tk],[]⟩) Q E s':=
 ga_check1 ((I.type (M:=M)).andThen (looks_mroIn X hb)) q (PySem.F.args_bexc_ga (.ref x) (.str name tk))
theorem ga_body {tk : Nat} {s' : Shared} {Q : PySem.Fin→Shared→Prop} (X : K.In s'.heap) (I : InstAt s'.heap x ox Cl od) (hf : findObj K Cl od name = some (.value v)) (q : Q (.done (.ret v)) s') : wpAny (model prog w) A (Builtin.«object.__getattribute__» ⟨[.ref x,.str name tk],[]⟩) Q E s':=by
 have L0:=I.type (M:=model prog w)
 have L1:=looks_find (M:=model prog w) X I hf
 unfold Builtin.«object.__getattribute__»
 refine wpAny_bind (m:=slotArgs _ _ _) (wpAny_pure ?_)
 refine wpAny_bind (wpAny_pure (wpAny_bind (L0.here (wpAny_bind (L1.here ?_)))))
 exact wpAny_pure q
theorem ga_call {tk : Nat} {R : PySem.Result→Shared→Prop} {h : Heap} {g : Array PySem.GenState} {dr : PySem.Drawn} {t : Nat} {os : PySem.OsState} (X : K.In h) (I : InstAt h x ox Cl od) (hb : mroIn K Cl (.type "BaseException") = some true)
  (hf : findObj K Cl od name = some (.value v)) (hq : R (.ok (.ret v)) ⟨h,g,dr,t,os⟩) : codeAny (model prog w) A (.call (.builtin "BaseException.__getattribute__") ⟨[.ref x,.str name tk],[]⟩) R ⟨h,g,dr,t,os⟩:=
 codeAny_call_builtin PySem.F.attr_Exception.ga.plain PySem.F.entry_bexc_ga (ga_check (s':=⟨h,g,dr,t,os⟩) X I hb (ga_body (s':=⟨h,g,dr,t,os⟩) X I hf hq))
theorem get_exc {Q : Value→Shared→Prop} (X : K.In s.heap) (I : InstAt s.heap x ox Cl od) (hga : findIn K (.ref Cl) "__getattribute__" = some (some (.builtin "BaseException.__getattribute__"))) (hgn : findIn K (.ref Cl) "__getattr__" = some none) (hb : mroIn K Cl (.type "BaseException") = some true)
  (hf : findObj K Cl od name = some (.value v)) (hh : handedIn v = true) (h : Q v { s with toks:=s.toks + 1 }) : wpAny (model prog w) A (getAttr (.ref x) name expr) Q E s:=by
 obtain ⟨hp,g,dr,t,os⟩:=s
 have L0:=I.type (M:=model prog w)
 have L1:=looks_findIn (M:=model prog w) X hga
 have L2:=looks_findIn (M:=model prog w) X hgn
 unfold getAttr PySem.getAttrBy
 refine wpAny_bind (wpAny_mkText (wpAny_holding (wpAny_bind (L0.at (wpAny_bind (L1.at ?_))))))
 have hx2 : (Value.builtin "BaseException.__getattribute__" == Value.builtin "object.__getattribute__") = false:=by decide +kernel
 dsimp only
 rw [hx2]
 refine (?_ : wpAny _ _ (PySem.getAttrByItsOwn _ _ _ _ _ _) _ _ _)
 unfold PySem.getAttrByItsOwn
 refine wpAny_bind (L2.at ?_)
 have hx0 : (expr && PySem.onTheHeap (Value.builtin "BaseException.__getattribute__")) = false:=by induction expr <;> rfl
 unfold PySem.callGetattribute
 rw [hx0,if_neg (by simp)]
 unfold PySem.boundAndCalled
 have f3:=PySem.F.attr_Exception.ga.bind (.ref x)
 rw [f3]
 refine wpAny_bind (wpAny_attempt (wpAny_holding (wpAny_bind (wpAny_pure (wpAny_call (ga_call X I hb hf ?_))))))
 refine (?_ : wpAny _ _ (handedOut v) _ _ _)
 rw [handedOut_of hh]
 exact wpAny_pure h
end
end
section
variable {C : Cx} {A A' : Around} {fl fl' : Option Addr} {φ : Nat→Addr} {H : List O} {s : Shared} {l : List Env} {d : Nat}
section
variable {prog : Program} {w : World} {E : Value→Shared→Prop} {K : Frag} {x Cl : Addr} {ox : Obj} {od : Option Obj} {name : Str} {v : Value} {cd : PySem.ClassData} {R : PySem.Result→Shared→Prop}
theorem store_dict {dx : Addr} {es : List DictEntry} {n tk : Nat} {Q : PySem.Fin→Shared→Prop} (D : s.heap.get? dx = some (W.dictOf es n)) (hl : (W.getL name es).isSome = true) (hz : es.length ≤ 900)
  (h : Q (.done (.ret .none)) { s with heap:=s.heap.update dx (Obj.putName name (PyData.keyHash w.params name) (.str name s.toks) v),toks:=s.toks + 1 }) : wpAny (model prog w) A (PySem.Builtin.ObjectAttr.storeInDict dx (.str name tk) name v) Q E s:=by
 have e1:=putName_dict name (PyData.keyHash w.params name) (.str name s.toks) v es n
 have D' : (s.heap.update dx (Obj.putName name (PyData.keyHash w.params name) (.str name s.toks) v)).get? dx = some (W.dictOf (W.putL name (PyData.keyHash w.params name) (.str name s.toks) v es) (putN name es n)):=by
  rw [← e1]
  exact Heap.get?_update_self _ D (by rw [e1]; rfl)
 refine wpAny_bind (wpAny_pure (wpAny_bind ?_))
 unfold nsSet
 refine wpAny_bind (wpAny_bind (wpAny_askSetting (wpAny_pure (wpAny_bind (wpAny_mkText (wpAny_bind (wpAny_loadPart D ?_)))))))
 dsimp only
 have c : (!es.toArray.any (·.key.isStr name) && es.toArray.any (·.refKey)) = false:=by
  rw [← Array.any_toList,← Array.any_toList]
  unfold W.getL at hl
  split at hl
  ·rename_i en he
   rw [List.any_eq_true.mpr ⟨en,List.mem_of_find?_eq_some he,List.find?_some he⟩]; rfl
  ·split at hl
   ·injection hl
   ·rename_i z; rw [Bool.not_eq_true] at z; rw [z,Bool.and_false]
 rw [aRefKeyMayBeTheName_at,c]
 refine wpAny_updatePart D ?_
 refine wpAny_bind (wpAny_lookBehind D' (pastItsLine_dict (by
  have:=putL_size name (PyData.keyHash w.params name) (.str name s.toks) v es
  rw [List.size_toArray,sizeLine_eq]; lia)) ?_)
 exact wpAny_pure h
theorem osa_exc {tk : Nat} (X : K.In s.heap) (I : InstAt s.heap x ox Cl od) (hc : clsIn K Cl = some cd) (hm : cd.mro = [.ref Cl,.type "Exception",.type "BaseException",.type "object"]) (ha : findIn K (.ref Cl) name = some none)
  (h : ∀ b,wpAny (model prog w) A.in1 (PySem.Builtin.ObjectAttr.storeInOwnDict (.ref x) (.ref Cl) (.str name tk) name v b) (fun fin s'=>match fin with | .done f=>R (.ok f) s' | .again c'=>c'.quiet = true∧codeAny (model prog w) A c' R s') (fun e s'=>R (.error e) s') s) :
  codeAny (model prog w) A (.call (.builtin "object.__setattr__") ⟨[.ref x,.str name tk,v],[]⟩) R s:=by
 have SF:=PySem.F.store_object
 have sub : Looks (model prog w) s.heap (PySem.isInstance (.ref x) (.type "object")) true:=I.type.andThen (looks_mroIn X (by unfold mroIn; rw [hc,Option.bind_some,hm]; rfl))
 refine codeAny_call_builtin SF.slot.plain SF.entry (@check_slot (model prog w) _ _ s "object.__setattr__" "object" "__setattr__" (.ref x) [.str name tk,v] [] _ SF.kind SF.split sub (SF.args (.ref x) (.str name tk) v) ?_)
 have hmo : Looks (model prog w) s.heap (PySem.mroOf (.ref Cl)) cd.mro:=(looks_clsIn X hc).andThen .now
 rw [osa_eq,refuse_eq]
 refine wpAny_bind (wpAny_bind (I.type.here (wpAny_bind (hmo.here ?_))))
 rw [hm,refuseLoop_ref,PySem.F.store_Exception.passes]
 refine wpAny_pure (wpAny_bind (I.type.here (wpAny_bind ((looks_findIn X ha).here (wpAny_bind (wpAny_pure ?_))))))
 exact h _
theorem set_exc {es : List DictEntry} {n : Nat} {dx : Addr} {data : PySem.Data} {sl : Array (Option Value)} {Q : Unit→Shared→Prop} (X : K.In s.heap) (I : InstAt s.heap x ⟨.ref Cl,some dx,data,sl⟩ Cl (some (W.dictOf es n))) (hs : findIn K (.ref Cl) "__setattr__" = some (some (.builtin "object.__setattr__")))
  (hc : clsIn K Cl = some cd) (hm : cd.mro = [.ref Cl,.type "Exception",.type "BaseException",.type "object"]) (hh : cd.hasDict = true) (ha : findIn K (.ref Cl) name = some none) (hl : (W.getL name es).isSome = true) (hz : es.length ≤ 900)
  (h : Q () { s with heap:=s.heap.update dx (Obj.putName name (PyData.keyHash w.params name) (.str name (s.toks + 1)) v),toks:=s.toks + 2 }) : wpAny (model prog w) A (setAttr (.ref x) name v) Q E s:=by
 refine set_plain X I hs ?_
 have X1 : K.In ({ s with toks:=s.toks + 1 } : Shared).heap:=X
 refine osa_exc (s:={ s with toks:=s.toks + 1 }) X1 I hc hm ha fun b=>?_
 have D:=I.dict
 dsimp only at D
 have hx:=I.at_
 refine wpAny_bind (wpAny_pure (wpAny_bind (wpAny_bind (wpAny_loadPart hx (wpAny_bind ((looks_clsIn X1 hc).here ?_))))))
 rw [hh]
 refine wpAny_pure (a:=some dx) ?_
 exact store_dict (s:={ s with toks:=s.toks + 1 }) D hl hz h
theorem set_exc0 {vs : Array Value} {sl : Array (Option Value)} {Q : Unit→Shared→Prop} (X : K.In s.heap) (I : InstAt s.heap x ⟨.ref Cl,none,.fields vs,sl⟩ Cl none) (hs : findIn K (.ref Cl) "__setattr__" = some (some (.builtin "object.__setattr__")))
  (hc : clsIn K Cl = some cd) (hm : cd.mro = [.ref Cl,.type "Exception",.type "BaseException",.type "object"]) (hh : cd.hasDict = true) (ha : findIn K (.ref Cl) name = some none)
  (h : ∀ h',Heap.SameBut x (s.heap.push (W.dictOf (W.putL name (PyData.keyHash w.params name) (.str name (s.toks + 1)) v []) (putN name [] 0))) h'→h'.get? x = some ⟨.ref Cl,some s.heap.objs.size,.fields vs,sl⟩ →
   Q () { s with heap:=h',toks:=s.toks + 2 }) : wpAny (model prog w) A (setAttr (.ref x) name v) Q E s:=by
 refine set_plain X I hs ?_
 have X1 : K.In ({ s with toks:=s.toks + 1 } : Shared).heap:=X
 refine osa_exc (s:={ s with toks:=s.toks + 1 }) X1 I hc hm ha fun b=>?_
 have hx:=I.at_
 refine wpAny_bind (wpAny_pure (wpAny_bind (wpAny_bind (wpAny_loadPart hx (wpAny_bind ((looks_clsIn X1 hc).here ?_))))))
 rw [hh,if_neg (by simp)]
 dsimp only
 rw [if_neg (by simp [PySem.typeHasDict])]
 have hx₁ : (s.heap.push { cls:=.type "dict",data:=.dict #[] }).get? x = some ⟨.ref Cl,none,.fields vs,sl⟩:=Heap.get?_push_of_some _ hx
 have hxs : x ≠ s.heap.objs.size:=Nat.ne_of_lt (Heap.lt_size hx)
 refine wpAny_bind (wpAny_alloc (wpAny_bind (wpAny_update hx₁ (wpAny_pure ?_))))
 have hgd : ((s.heap.push { cls:=.type "dict",data:=.dict #[] }).update x fun o=>{ cls:=o.cls,dict:=some s.heap.objs.size,data:=o.data,slots:=o.slots }).get? s.heap.objs.size = some (W.dictOf [] 0):=
  (Heap.get?_update_other _ _ hxs).trans (Heap.get?_push_at rfl rfl)
 have e1:=putName_dict name (PyData.keyHash w.params name) (.str name (s.toks + 1)) v [] 0
 refine store_dict (s:={ s with heap:=(s.heap.push { cls:=.type "dict",data:=.dict #[] }).update x fun o=>{ cls:=o.cls,dict:=some s.heap.objs.size,data:=o.data,slots:=o.slots },toks:=s.toks + 1 }) hgd (by rfl) (by simp) ?_
 refine h _ ⟨?_,fun b hb=>?_⟩ ?_
 ·rw [Heap.size_push,(Heap.SameBut.update _ _ _).1,(Heap.SameBut.update _ _ _).1,Heap.size_push]
 ·by_cases q : b = s.heap.objs.size
  ·subst q
   rw [Heap.get?_push_at rfl rfl,← e1]
   exact Heap.get?_update_self _ hgd (by rw [e1]; rfl)
  ·rw [Heap.get?_update_other _ _ (Ne.symm q),Heap.get?_update_other _ _ (Ne.symm hb)]
   rw [Heap.get?_push_ne _ _ _ q,Heap.get?_push_ne _ _ _ q]
 ·exact (Heap.get?_update_other _ _ (Ne.symm hxs)).trans (Heap.get?_update_self _ hx₁ rfl)
end
end
section
variable {C : Cx} {A A' : Around} {fl fl' : Option Addr} {φ : Nat→Addr} {H : List O} {s : Shared} {l : List Env} {d : Nat}
structure GoodE (C : Cx) : Prop where
 base : mroIn C.K (C.ca 1) (.type "BaseException") = some true
 ga : findIn C.K (.ref (C.ca 1)) "__getattribute__" = some (some (.builtin "BaseException.__getattribute__"))
 gn : findIn C.K (.ref (C.ca 1)) "__getattr__" = some none
 sa : findIn C.K (.ref (C.ca 1)) "__setattr__" = some (some (.builtin "object.__setattr__"))
 cls : ∃ cd,clsIn C.K (C.ca 1) = some cd∧cd.mro = .ref (C.ca 1) :: bmE∧cd.hasDict = true
 obj : ∃ nm q N bs hdct sn sub ab col dd k0 k1 k2 k3 k5 mN,C.base.get? (C.ca 1) = some (excClassObj nm q (C.ca 1) N bs bmE hdct sn sub ab col dd k0 k1 k2 k3 k5 "Exception.__new__")∧C.base.Ns N mN∧mN "__init__" = some (.ref (C.fa (iniT 1)))
 fI : ∃ o,C.base.get? (C.fa (iniT 1)) = some o∧o.cls = .type "function"
theorem exc_make (GE : GoodE C) : ExcMake C:=by
 intro A s vals Q E hk hz h
 obtain ⟨nm,q,N,bs,hdct,sn,sub,ab,col,dd,k0,k1,k2,k3,k5,mN,h1,h2,h3⟩:=GE.obj
 refine ex1_2 GE.fI fun o f1 f2=>?_
 obtain ⟨hp,g,dr,t,os⟩:=s
 exact wpAny_call_exc_init (hrest:=by have:=line_is; lia) PySem.F.excBase_Exception (hk _ _ h1) (h2.keeps hk) h3 (hk _ _ f1) f2 fun h' e m=>h h' e m
theorem exc_at {n : Nat} {dd : Option Nat} {up : Bool} (r : Rel C φ H s.heap) (e : H[n]? = some (.exc 1 dd up)) :
  ∃ vs sl,s.heap.get? (φ n) = some ⟨.ref (C.ca 1),dd.map φ,.fields vs,sl⟩∧(∀ m,dd = some m→m < H.length)∧1 < vs.size∧(up = false→vs[1]? = some .none):=by
 refine ex1_2 (r.obj n _ e) fun ob h1 h2=>?_
 refine ex2_4 h2.inv fun vs sl z a b b'=>?_
 subst z
 exact in2_4 _ _ h1 a b b'
theorem exc_get (G : Good C) (GE : GoodE C) : ExcGet C:=by
 intro A fl φ H s n m dd up fs v mm r e1 e2 ok e3 hm b
 refine ex0_3 (okA_and ok) fun o1 o2 o3=>?_
 refine ex2_4 (exc_at r e1) fun vs sl a1 a2 a3 a4=>?_
 refine ex2_3 (attrs_at r e2) fun es ep b1 b2 b3=>?_
 refine ex1_2 (look_some G o2 b2 e3) fun cv c1 c2=>?_
 refine ex1_3 GE.cls fun cd k1 k2 k3=>?_
 have I : InstAt s.heap (φ n) ⟨.ref (C.ca 1),some (φ dd),.fields vs,sl⟩ (C.ca 1) (some (W.dictOf es ep)):=⟨a1,rfl,rfl,b1⟩
 refine Sim.ret hm r fun Q E q=>?_
 exact get_exc (G.K_in r) I GE.ga GE.gn GE.base (findObj_own (by unfold hasDictIn; rw [k1]; exact k3) (G.att 1 m ok) rfl (by rw [lookIn_dict]; exact c1)) (handed c2) (q _ _ c2)
theorem exc_set (G : Good C) (GE : GoodE C) : ExcSet C:=by
 intro A fl φ H s n m dd up fs v cv mm r e1 e2 ok hz vv hm
 refine ex0_3 (okA_and ok) fun o1 o2 o3=>?_
 refine ex2_4 (exc_at r e1) fun vs sl a1 a2 a3 a4=>?_
 refine ex2_3 (attrs_at r e2) fun es ep b1 b2 b3=>?_
 refine ex1_3 GE.cls fun cd k1 k2 k3=>?_
 have I : InstAt s.heap (φ n) ⟨.ref (C.ca 1),some (φ dd),.fields vs,sl⟩ (C.ca 1) (some (W.dictOf es ep)):=⟨a1,rfl,rfl,b1⟩
 have hd : dd < H.length:=(List.getElem?_eq_some_iff.mp e2).1
 have hl : (W.getL (C.an m) es).isSome = true:=by
  induction q : lookA m fs using Option.casesOn with
  | none=>rw [look_none G o2 b2 q]; rfl
  | some v=>refine ex1_2 (look_some G o2 b2 q) fun cv c1 _=>?_; rw [c1]; rfl
 intro _
 refine set_exc (G.K_in r) I GE.sa k1 k2 k3 (G.att 1 m ok) hl (by lia) ?_
 have e:=putName_dict (C.an m) (PyData.keyHash C.w.params (C.an m)) (.str (C.an m) (s.toks + 1)) cv es ep
 have D:=Heap.get?_update_self (Obj.putName (C.an m) (PyData.keyHash C.w.params (C.an m)) (.str (C.an m) (s.toks + 1)) cv) b1 (by rw [e]; rfl)
 rw [e] at D
 have hos : OS C φ H.length (s.heap.update (φ dd) (Obj.putName (C.an m) (PyData.keyHash C.w.params (C.an m)) (.str (C.an m) (s.toks + 1)) cv)) (.attrs (putA m v fs)) (W.dictOf (W.putL (C.an m) (PyData.keyHash C.w.params (C.an m)) (.str (C.an m) (s.toks + 1)) cv es) (putN (C.an m) es ep)):=by
  have pa:=put_all (hsh:=PyData.keyHash C.w.params (C.an m)) (t:=s.toks + 1) G o2 b2 vv
  refine .attrs pa ?_
  rw [← pa.length]
  have:=put_len m v fs
  lia
 obtain ⟨x1,x2⟩:=Rel.upd (tk:=s.toks + 2) r hd (Heap.SameBut.update _ _ _) D hos
 exact ⟨(),_,φ,hm,x1,x2,trivial⟩
theorem OS.excE {N c dd : Nat} {a : Addr} {h : Heap} {up : Bool} {vs : Array Value} {sl : Array (Option Value)} (hn : dd < N) (e : a = φ dd) (h1 : 1 < vs.size) (h2 : up = false→vs[1]? = some .none) : OS C φ N h (.exc c (some dd) up) ⟨.ref (C.ca c),some a,.fields vs,sl⟩:=by
 subst e
 exact .exc (d:=some dd) (fun n e=>by cases e; exact hn) h1 h2
theorem exc_set0 (G : Good C) (GE : GoodE C) : ExcSet0 C:=by
 intro A fl φ H s n m up v cv mm r e1 ok vv hm
 refine ex0_3 (okA_and ok) fun o1 o2 o3=>?_
 refine ex2_4 (exc_at r e1) fun vs sl a1 a2 a3 a4=>?_
 refine ex1_3 GE.cls fun cd k1 k2 k3=>?_
 have hn : n < H.length:=(List.getElem?_eq_some_iff.mp e1).1
 have I : InstAt s.heap (φ n) ⟨.ref (C.ca 1),none,.fields vs,sl⟩ (C.ca 1) none:=⟨a1,rfl,rfl,trivial⟩
 intro _
 refine set_exc0 (G.K_in r) I GE.sa k1 k2 k3 (G.att 1 m ok) fun h' hs hx=>?_
 generalize hob : W.dictOf (W.putL (C.an m) (PyData.keyHash C.w.params (C.an m)) (.str (C.an m) (s.toks + 1)) cv []) (putN (C.an m) [] 0) = ob at hs
 have hp : ∀ k,k < H.length→addφ φ H.length s.heap.objs.size k = φ k:=fun k hk=>addφ_lt hk
 have hos : OS C (addφ φ H.length s.heap.objs.size) (H.length + 1) (s.heap.push ob) (.attrs [(m,v)]) ob:=by
  rw [← hob]
  exact .attrs (put_all (fs:=[]) (hsh:=PyData.keyHash C.w.params (C.an m)) (t:=s.toks + 1) G o2 .nil (vv.mono hp (Nat.le_succ _))) (by simp [W.putL])
 obtain ⟨x1,r1⟩:=Rel.add (tk:=s.toks + 2) (h':=s.heap.push ob) r (fun b o e=>Heap.get?_push_of_some _ e) (Heap.get?_push_size _ (by rw [← hob]; rfl)) (get_size_none _) hos
 have hn1 : n < (H ++ [O.attrs [(m,v)]]).length:=by simp; lia
 have e0 : addφ φ H.length s.heap.objs.size n = φ n:=hp n hn
 have hlen : H.length < (H ++ [O.attrs [(m,v)]]).length:=by simp
 obtain ⟨x2,r2⟩:=Rel.upd (s:={ s with heap:=s.heap.push ob,toks:=s.toks + 2 }) (tk:=s.toks + 2) (o':=.exc 1 (some H.length) up) (h':=h') r1 hn1 (by rw [e0]; exact hs) (by rw [e0]; exact hx) (OS.excE hlen (by rw [addφ_at]) a3 a4)
 exact ⟨(),_,_,hm,x1.trans x2,r2,trivial⟩
end
section
theorem enc1 (t u : Nat) : Builtin.«str.encode» ⟨[.str "table" t,.str "ascii" u],[]⟩ = (PySem.mkBytes #[116,97,98,108,101] >>= fun v=>PySem.ret v):=by kernel_rfl
theorem enc2 (t u : Nat) : Builtin.«str.encode» ⟨[.str "sort" t,.str "ascii" u],[]⟩ = (PySem.mkBytes #[115,111,114,116] >>= fun v=>PySem.ret v):=by kernel_rfl
theorem enc3 (t u : Nat) : Builtin.«str.encode» ⟨[.str "print" t,.str "ascii" u],[]⟩ = (PySem.mkBytes #[112,114,105,110,116] >>= fun v=>PySem.ret v):=by kernel_rfl
theorem spl1 (t u : Nat) : Builtin.«str.split» ⟨[.str "print" t,.str "." u],[]⟩ = (PySem.rule "str.split.same-object" >>= fun _=>PySem.newList [.str "print" t] >>= fun v=>PySem.ret v):=by kernel_rfl
theorem spl2 (t u : Nat) : Builtin.«str.split» ⟨[.str "table.sort" t,.str "." u],[]⟩ = (PySem.mkStr "table" >>= fun a=>PySem.mkStr "sort" >>= fun b=>PySem.newList [a,b] >>= fun v=>PySem.ret v):=by kernel_rfl
section
variable {M : PySem.Model} {A : Around} {E : Value→Shared→Prop} {h : Heap} {g : Array PySem.GenState} {d : PySem.Drawn} {t : Nat} {os : PySem.OsState} {a : Addr} {ep : Nat}
theorem take_eq (b : Array UInt8) (u : Nat) : Builtin.Bytes.takeBufferQuiet? "bytes.join" (.bytes b u) 0 = pure (some (b,none)):=by kernel_rfl
theorem take_bytes {b : Array UInt8} {u : Nat} {s : Shared} {Q : Option (Array UInt8 × Option Value)→Shared→Prop} (q : Q (some (b,none)) s) : wpAny M A (Builtin.Bytes.takeBufferQuiet? (toString Builtin.Bytes.Kind.bytes.name ++ toString ".join") (.bytes b u) 0) Q E s:=by
 rw [show toString Builtin.Bytes.Kind.bytes.name ++ toString ".join" = "bytes.join" from by kernel_rfl,take_eq]
 exact wpAny_pure q
theorem jlg {keep : List Value} {s : Shared} {Q : Unit→Shared→Prop} (q : Q () s) : ∀ taken : List (Value × Option Value),(∀ p,p ∈ taken→p.2 = none)→wpAny M A (Builtin.Bytes.joinLetGo taken keep) Q E s
 | [],_=>wpAny_pure q
 | (x,w) :: r,hw=>by
  have:=hw _ (.head _)
  dsimp only at this
  subst this
  unfold Builtin.Bytes.joinLetGo
  exact wpAny_bind (wpAny_letGo (jlg q r fun p hp=>hw p (.tail _ hp)))
theorem wneg {α : Type} {c : Prop} [Decidable c] {x y : Sem α} {Q : α→Shared→Prop} {s : Shared} (h : ¬ c) (k : wpAny M A y Q E s) : wpAny M A (if c then x else y) Q E s:=by
 rw [if_neg h]; exact k
theorem wpos {α : Type} {c : Prop} [Decidable c] {x y : Sem α} {Q : α→Shared→Prop} {s : Shared} (h : c) (k : wpAny M A x Q E s) : wpAny M A (if c then x else y) Q E s:=by
 rw [if_pos h]; exact k
theorem wpe {α : Type} {x y : Sem α} {Q : α→Shared→Prop} {s : Shared} (h : x = y) (k : wpAny M A y Q E s) : wpAny M A x Q E s:=by
 rw [h]; exact k
theorem join0 {b  : Array UInt8} {u  : Nat} {Q : PySem.Fin→Shared→Prop} (ho : h.get? a = some ⟨.type "list",none,.seq #[] ep,#[]⟩) (hz : b.size ≤ 100000)
  (q : Q (.done (.ret (.bytes (Builtin.Bytes.joined b []) t))) ⟨h,g,d,t + 1,os⟩) : wpAny M A (Builtin.«bytes.join» ⟨[.bytes b u,.ref a],[]⟩) Q E ⟨h,g,d,t,os⟩:=by
 have hl:=line_is
 unfold Builtin.«bytes.join» Builtin.Bytes.joinM
 iterate 18 (first | with_reducible refine wpAny_loadPart_at ho ?_ | wp_step)
 refine wpAny_seqItems ho rfl ?_
 refine wpos (by decide) ?_
 unfold PySem.Builtin.Bytes.joinM.match_1
 rw [dif_neg (by simp)]
 dsimp only
 rw [Std.Legacy.Range.forIn_eq_forIn_range']
 refine wpAny_bind ?_
 rw [show List.range' [:(#[] : Array Value).size].start [:(#[] : Array Value).size].size [:(#[] : Array Value).size].step = [] from by simp [Std.Legacy.Range.size,List.range']]
 refine wpe (List.forIn_nil ..) ?_
 refine wpAny_pure ?_
 refine wpAny_bind (wpAny_pure ?_)
 refine wneg (by simp [Builtin.Bytes.tooLong] <;> lia) ?_
 refine wpAny_bind ?_
 unfold Builtin.Bytes.Kind.new PySem.mkBytes
 refine wneg (by simp [Builtin.Bytes.joined] <;> lia) ?_
 refine wpAny_bind (wpAny_fresh (wpAny_pure ?_))
 refine wpAny_bind (wpAny_holding (wpAny_point ?_))
 refine wpAny_bind (jlg ?_ _ (by simp))
 exact wpAny_pure q
theorem join1 {b b1 : Array UInt8} {u u1 : Nat} {Q : PySem.Fin→Shared→Prop} (ho : h.get? a = some ⟨.type "list",none,.seq #[.bytes b1 u1] ep,#[]⟩)
  (q : Q (.done (.ret (.bytes b1 u1))) ⟨h,g,d,t,os⟩) : wpAny M A (Builtin.«bytes.join» ⟨[.bytes b u,.ref a],[]⟩) Q E ⟨h,g,d,t,os⟩:=by
 unfold Builtin.«bytes.join» Builtin.Bytes.joinM
 iterate 18 (first | with_reducible refine wpAny_loadPart_at ho ?_ | wp_step)
 refine wpAny_seqItems ho rfl ?_
 refine wpos (by decide) ?_
 repeat (first | with_reducible refine wpAny_loadPart_at ho ?_ | wp_step)
 exact q
theorem join2 {b b1 b2 : Array UInt8} {u u1 u2 : Nat} {Q : PySem.Fin→Shared→Prop} (ho : h.get? a = some ⟨.type "list",none,.seq #[.bytes b1 u1,.bytes b2 u2] ep,#[]⟩) (hz : b.size + b1.size + b2.size ≤ 100000)
  (q : Q (.done (.ret (.bytes (Builtin.Bytes.joined b [b1,b2]) t))) ⟨h,g,d,t + 1,os⟩) : wpAny M A (Builtin.«bytes.join» ⟨[.bytes b u,.ref a],[]⟩) Q E ⟨h,g,d,t,os⟩:=by
 have hl:=line_is
 unfold Builtin.«bytes.join» Builtin.Bytes.joinM
 iterate 18 (first | with_reducible refine wpAny_loadPart_at ho ?_ | wp_step)
 refine wpAny_seqItems ho rfl ?_
 refine wpos (by decide) ?_
 unfold PySem.Builtin.Bytes.joinM.match_1
 rw [dif_neg (by simp)]
 dsimp only
 rw [Std.Legacy.Range.forIn_eq_forIn_range']
 refine wpAny_bind ?_
 rw [show List.range' [:#[Value.bytes b1 u1,Value.bytes b2 u2].size].start [:#[Value.bytes b1 u1,Value.bytes b2 u2].size].size [:#[Value.bytes b1 u1,Value.bytes b2 u2].size].step = [0,1] from by simp [Std.Legacy.Range.size,List.range']]
 refine wpe (List.forIn_cons ..) ?_
 refine wpAny_bind (wpAny_bind (wpAny_seqItems ho rfl ?_))
 refine wneg (by simp [PySem.Value.onHeap]; try decide) ?_
 refine wpAny_bind (wpAny_holding (take_bytes ?_))
 refine wpAny_bind (wpAny_seqItems ho rfl ?_)
 refine wneg (by simp) ?_
 refine wpAny_pure ?_
 refine wpe (List.forIn_cons ..) ?_
 refine wpAny_bind (wpAny_bind (wpAny_seqItems ho rfl ?_))
 refine wneg (by simp [PySem.Value.onHeap]; try decide) ?_
 refine wpAny_bind (wpAny_holding (take_bytes ?_))
 refine wpAny_bind (wpAny_seqItems ho rfl ?_)
 refine wneg (by simp) ?_
 refine wpAny_pure ?_
 refine wpe (List.forIn_nil ..) ?_
 refine wpAny_pure ?_
 refine wpAny_bind (wpAny_pure ?_)
 refine wneg (by simp [Builtin.Bytes.tooLong] <;> lia) ?_
 refine wpAny_bind ?_
 unfold Builtin.Bytes.Kind.new PySem.mkBytes
 refine wneg (by simp [Builtin.Bytes.joined] <;> lia) ?_
 refine wpAny_bind (wpAny_fresh (wpAny_pure ?_))
 refine wpAny_bind (wpAny_holding (wpAny_point ?_))
 refine wpAny_bind (jlg ?_ _ (by simp))
 exact wpAny_pure q
theorem join3 {b b1 b2 b3 : Array UInt8} {u u1 u2 u3 : Nat} {Q : PySem.Fin→Shared→Prop} (ho : h.get? a = some ⟨.type "list",none,.seq #[.bytes b1 u1,.bytes b2 u2,.bytes b3 u3] ep,#[]⟩) (hz : 2 * b.size + b1.size + b2.size + b3.size ≤ 100000)
  (q : Q (.done (.ret (.bytes (Builtin.Bytes.joined b [b1,b2,b3]) t))) ⟨h,g,d,t + 1,os⟩) : wpAny M A (Builtin.«bytes.join» ⟨[.bytes b u,.ref a],[]⟩) Q E ⟨h,g,d,t,os⟩:=by
 have hl:=line_is
 unfold Builtin.«bytes.join» Builtin.Bytes.joinM
 iterate 18 (first | with_reducible refine wpAny_loadPart_at ho ?_ | wp_step)
 refine wpAny_seqItems ho rfl ?_
 refine wpos (by decide) ?_
 unfold PySem.Builtin.Bytes.joinM.match_1
 rw [dif_neg (by simp)]
 dsimp only
 rw [Std.Legacy.Range.forIn_eq_forIn_range']
 refine wpAny_bind ?_
 rw [show List.range' [:#[Value.bytes b1 u1,Value.bytes b2 u2,Value.bytes b3 u3].size].start [:#[Value.bytes b1 u1,Value.bytes b2 u2,Value.bytes b3 u3].size].size [:#[Value.bytes b1 u1,Value.bytes b2 u2,Value.bytes b3 u3].size].step = [0,1,2] from by simp [Std.Legacy.Range.size,List.range']]
 refine wpe (List.forIn_cons ..) ?_
 refine wpAny_bind (wpAny_bind (wpAny_seqItems ho rfl ?_))
 refine wneg (by simp [PySem.Value.onHeap]; try decide) ?_
 refine wpAny_bind (wpAny_holding (take_bytes ?_))
 refine wpAny_bind (wpAny_seqItems ho rfl ?_)
 refine wneg (by simp) ?_
 refine wpAny_pure ?_
 refine wpe (List.forIn_cons ..) ?_
 refine wpAny_bind (wpAny_bind (wpAny_seqItems ho rfl ?_))
 refine wneg (by simp [PySem.Value.onHeap]; try decide) ?_
 refine wpAny_bind (wpAny_holding (take_bytes ?_))
 refine wpAny_bind (wpAny_seqItems ho rfl ?_)
 refine wneg (by simp) ?_
 refine wpAny_pure ?_
 refine wpe (List.forIn_cons ..) ?_
 refine wpAny_bind (wpAny_bind (wpAny_seqItems ho rfl ?_))
 refine wneg (by simp [PySem.Value.onHeap]; try decide) ?_
 refine wpAny_bind (wpAny_holding (take_bytes ?_))
 refine wpAny_bind (wpAny_seqItems ho rfl ?_)
 refine wneg (by simp) ?_
 refine wpAny_pure ?_
 refine wpe (List.forIn_nil ..) ?_
 refine wpAny_pure ?_
 refine wpAny_bind (wpAny_pure ?_)
 refine wneg (by simp [Builtin.Bytes.tooLong] <;> lia) ?_
 refine wpAny_bind ?_
 unfold Builtin.Bytes.Kind.new PySem.mkBytes
 refine wneg (by simp [Builtin.Bytes.joined] <;> lia) ?_
 refine wpAny_bind (wpAny_fresh (wpAny_pure ?_))
 refine wpAny_bind (wpAny_holding (wpAny_point ?_))
 refine wpAny_bind (jlg ?_ _ (by simp))
 exact wpAny_pure q
end
end
section
variable {C : Cx} {A A' : Around} {fl fl' : Option Addr} {φ : Nat→Addr} {H : List O} {s : Shared} {l : List Env} {d : Nat}
theorem entry_bjoin : entryFor table "bytes.join" = some Builtin.«bytes.join»:=entryFor_of_tree (by kernel_rfl)
theorem args_bjoin (a b : Value) : argsOk "bytes.join" ⟨[a,b],[]⟩:=by unfold argsOk; kernel_rfl
theorem str_is {x : Str} {l : List Nat} (h : x.cps.toList = l) : x = ⟨l.toArray⟩:=by
 obtain ⟨c⟩:=x
 subst h
 rfl
theorem bytes_all {xs : List V} {vs : List Value} {bs : List (List Nat)} {N : Nat} (h : All2 (VR C φ N) xs vs) (e : flatB xs = some bs) : ∃ ps : List (Array UInt8 × Nat),vs = ps.map (fun p=>.bytes p.1 p.2)∧bs = ps.map (fun p=>p.1.toList.map UInt8.toNat):=by
 induction h generalizing bs with
 | nil=>injection e with e; subst e; exact in1_2 [] rfl rfl
 | cons h _ ih=>
  refine ex2_3 (flatB_cons e) fun i js z e1 e2=>?_
  subst z e2
  refine ex2_3 (vr_bytes h) fun b t z1 z2 _=>?_
  refine ex1_2 (ih e1) fun ps p1 p2=>?_
  exact in1_2 ((b,t) :: ps) (by rw [p1,z2]; rfl) (by rw [p2,z1]; rfl)
noncomputable def joinB2 (s : List Nat) (xs : List V) : M V:=if xs.length < 4 then (opt (flatB xs) >>= fun l=>if s.length ≤ 1000∧(l.all fun x=>Nat.ble x.length 1000) = true then Pure.pure (.bytes (joinB s l)) else Mp.stuck) else Mp.stuck
theorem p_join {b : Array UInt8} {t n : Nat} {xs : List V} (r : Rel C φ H s.heap) (e : H[n]? = some (.list xs)) : Sim C A fl (VH C) (joinB2 (b.toList.map UInt8.toNat) xs) (call (.builtin "bytes.join") [.bytes b t,.ref (φ n)]) φ H s:=by
 unfold joinB2
 split
 ·rename_i h4
  refine Sim.opt fun bs eb=>?_
  split
  ·rename_i hz
   obtain ⟨h1,h2⟩:=hz
   refine ex2_4 (isList r e) fun vs ep a1 a2 a3 a4=>?_
   (refine ex1_2 (bytes_all a3 eb) fun ps z1q z2q=>?_; subst z1q; subst z2q)
   have hl:=a3.length
   rw [List.length_map] at hl h1
   rw [hl] at h4
   have hs : ∀ p,p ∈ ps→p.1.size ≤ 1000:=fun p hp=>by
    rw [List.all_eq_true] at h2
    have:=h2 _ (List.mem_map_of_mem hp)
    have:=Nat.le_of_ble_eq_true this
    simpa using this
   have hb : b.size ≤ 1000:=by simpa using h1
   intro _
   obtain ⟨hp,g,dr,tk,os⟩:=s
   have lz:=line_is
   have fin : ∀ (x : Array UInt8) (u : Nat) (tk' : Nat),x.size ≤ 100000→joinB (b.toList.map UInt8.toNat) (ps.map fun p=>p.1.toList.map UInt8.toNat) = x.toList.map UInt8.toNat →
     OkP C (VH C) φ H ⟨hp,g,dr,tk,os⟩ ((Pure.pure (V.bytes (joinB (b.toList.map UInt8.toNat) (ps.map fun p=>p.1.toList.map UInt8.toNat))) : M V) H) (.bytes x u) ⟨hp,g,dr,tk',os⟩:=fun x u tk' h1 h2=>
    ⟨_,H,φ,rfl,grow_ext (fun _ _ e=>e),r,by rw [h2]; exact .bytes x u (by lia)⟩
   refine wpAny_call_entry slot_bytes_join (typeIs_bytes _ _ _) entry_bjoin ?_ (args_bjoin _ _)
   rcases ps with _ | ⟨p,_ | ⟨q,_ | ⟨o,_ | ⟨z,r'⟩⟩⟩⟩
   ·exact join0 a1 (by lia) ⟨_,rfl,fin _ _ _ (by simp [Builtin.Bytes.joined]) (by simp [Builtin.Bytes.joined,joinB])⟩
   ·have:=hs p (.head _)
    exact join1 a1 ⟨_,rfl,fin _ _ _ (by lia) (by simp [joinB])⟩
   ·have:=hs p (.head _)
    have:=hs q (.tail _ (.head _))
    exact join2 a1 (by lia) ⟨_,rfl,fin _ _ _ (by simp [Builtin.Bytes.joined]; lia) (by simp [Builtin.Bytes.joined,joinB])⟩
   ·have:=hs p (.head _)
    have:=hs q (.tail _ (.head _))
    have:=hs o (.tail _ (.tail _ (.head _)))
    exact join3 a1 (by lia) ⟨_,rfl,fin _ _ _ (by simp [Builtin.Bytes.joined]; lia) (by simp [Builtin.Bytes.joined,joinB])⟩
   ·simp at h4; lia
  ·exact Sim.stuck
 ·exact Sim.stuck
noncomputable def splitM2 (s : List Nat) (p : List Nat) : M V:=if p = [46]∧(s = [116,97,98,108,101,46,115,111,114,116] ∨ s = [112,114,105,110,116]) then (new (.list ((splitB 46 s).map V.str)) >>= fun n=>Pure.pure (.ref n)) else Mp.stuck
theorem strR {N : Nat} (x : Str) (t : Nat) {l : List Nat} (h : l = x.cps.toList) : VR C φ N (.str l) (.str x t):=by rw [h]; exact .str x t
theorem str_dot {y : Str} (h : y.cps.toList = [46]) : y = ".":=by rw [str_is h]; decide +kernel
theorem p_split {x y : Str} {t u : Nat} (r : Rel C φ H s.heap) : Sim C A fl (VH C) (splitM2 x.cps.toList y.cps.toList) (call (.builtin "str.split") [.str x t,.str y u]) φ H s:=by
 unfold splitM2
 split
 ·rename_i h
  obtain ⟨hy,hx⟩:=h
  rw [str_dot hy]
  have done : ∀ (xs : List V) (vs : List Value) (s' : Shared),xs.length ≤ 10→(∀ b o,s.heap.get? b = some o→s'.heap.get? b = some o)→s'.gens = s.gens→s'.os = s.os→All2 (VR C φ H.length) xs vs→∀ e,∀ Q : Value→Shared→Prop,
    (∀ v s₂,OkP C (VH C) φ H s ((new (.list xs) >>= fun n=>(Pure.pure (.ref n) : M V)) H) v s₂→Q v s₂) →
    wpAny (model C.prog C.w) A.in1 (PySem.newList vs >>= fun v=>PySem.ret v) (fun fin s'=>∃ v,fin = .done (.ret v)∧Q v s') e s':=by
   intro xs vs s' hl g g1 g2 va e Q hQ
   refine wpAny_bind (wpAny_newObj_type ?_ (by show vs.toArray.size ≤ sizeLine; have:=line_is; have:=va.length; rw [List.size_toArray]; lia))
   obtain ⟨hp,gg,dr,tk,os⟩:=s'
   dsimp only at g g1 g2 ⊢
   subst g1 g2
   obtain ⟨x1,x2⟩:=Rel.add (s:={ s with heap:=hp,drawn:=dr,toks:=tk }) (tk:=tk) (o:=.list xs) (h':=hp.push { cls:=.type "list",dict:=none,data:=.seq vs.toArray }) (r.grow g) (fun b o e=>Heap.get?_push_of_some _ e) (Heap.get?_push_size _ rfl) (get_size_none _)
    (.list (va.mono fun _ _ z=>z.mono (fun n hn=>addφ_lt hn) (Nat.le_succ _)) (by have:=va.length; lia))
   refine wpAny_pure ⟨_,rfl,hQ _ _ ⟨.ref H.length,_,_,rfl,(Ext.trans ?_ x1),x2,?_⟩⟩
   ·exact ⟨Nat.le_refl _,fun _ _=>rfl,fun n h1 h2=>absurd h2 (Nat.not_lt.mpr h1),fun b o e _ _=>⟨o.slots,g b o e,fun _=>rfl⟩,fun b o e=>⟨o,g b o e⟩,rfl,rfl⟩
   ·exact .refE (by simp) addφ_at.symm
  rcases hx with hx | hx
  ·have e : (⟨[116,97,98,108,101,46,115,111,114,116].toArray⟩ : Str) = "table.sort":=by decide +kernel
   rw [hx,show x = "table.sort" from (str_is hx).trans e]
   intro _
   refine wpAny_call_entry PySem.F.slot_str_split (typeIs_str _ _ _) PySem.F.entry_str_split ?_ (PySem.F.args_str_split_2 _ _)
   rw [spl2]
   refine wpAny_bind (wpAny_mkStr (wpAny_bind (wpAny_mkStr ?_)))
   exact done [.str [116,97,98,108,101],.str [115,111,114,116]] _ { s with toks:=s.toks + 1 + 1 } (by decide) (fun b o e=>e) rfl rfl (.cons (strR "table" s.toks (by first | rfl | decide +kernel)) (.cons (strR "sort" (s.toks + 1) (by first | rfl | decide +kernel)) .nil)) _ _ fun v s₂ z=>z
  ·have e : (⟨[112,114,105,110,116].toArray⟩ : Str) = "print":=by decide +kernel
   rw [hx,show x = "print" from (str_is hx).trans e]
   intro _
   refine wpAny_call_entry PySem.F.slot_str_split (typeIs_str _ _ _) PySem.F.entry_str_split ?_ (PySem.F.args_str_split_2 _ _)
   rw [spl1]
   refine wpAny_bind (wpAny_rule ?_)
   exact done [.str [112,114,105,110,116]] _ s (by decide) (fun b o e=>e) rfl rfl (.cons (strR "print" t (by first | rfl | decide +kernel)) .nil) _ _ fun v s₂ z=>z
 ·exact Sim.stuck
noncomputable def encM2 (s : List Nat) (p : List Nat) : M V:=if p = [97,115,99,105,105]∧(s = [116,97,98,108,101] ∨ s = [115,111,114,116] ∨ s = [112,114,105,110,116]) then Pure.pure (.bytes s) else Mp.stuck
theorem enc_done {M : PySem.Model} {A : Around} {E : Value→Shared→Prop} {x : Array UInt8} {Q : PySem.Fin→Shared→Prop} (hz : x.size ≤ 1000) (q : Q (.done (.ret (.bytes x s.toks))) { s with toks:=s.toks + 1 }) : wpAny M A (PySem.mkBytes x >>= fun v=>PySem.ret v) Q E s:=by
 have:=line_is
 refine wpAny_bind ?_
 unfold PySem.mkBytes
 rw [if_neg (by lia)]
 exact wpAny_bind (wpAny_fresh (wpAny_pure (wpAny_pure q)))
theorem p_encode {x y : Str} {t u : Nat} (r : Rel C φ H s.heap) : Sim C A fl (VH C) (encM2 x.cps.toList y.cps.toList) (call (.builtin "str.encode") [.str x t,.str y u]) φ H s:=by
 unfold encM2
 split
 ·rename_i h
  obtain ⟨hy,hx⟩:=h
  have e0 : (⟨[97,115,99,105,105].toArray⟩ : Str) = "ascii":=by decide +kernel
  have hy' : y = "ascii":=(str_is hy).trans e0
  subst hy'
  intro _
  have lz:=line_is
  have done : ∀ (b : Array UInt8) (tk : Nat) (l : List Nat),b.size ≤ 1000→l = b.toList.map UInt8.toNat→∃ v : Value,PySem.Fin.done (.ret (.bytes b tk)) = .done (.ret v)∧OkP C (VH C) φ H s ((Pure.pure (V.bytes l) : M V) H) v { s with toks:=s.toks + 1 }:=fun b tk l h1 h2=>
   ⟨_,rfl,_,H,φ,rfl,grow_ext fun _ _ e=>e,r,by rw [h2]; exact .bytes b tk (by lia)⟩
  refine wpAny_call_entry PySem.F.slot_str_encode (typeIs_str _ _ _) PySem.F.entry_str_encode ?_ (PySem.F.args_str_encode_2 _ _)
  rcases hx with hx | hx | hx
  ·have e : (⟨[116,97,98,108,101].toArray⟩ : Str) = "table":=by decide +kernel
   rw [hx,show x = "table" from (str_is hx).trans e,enc1]
   exact enc_done (by decide) (done _ _ _ (by decide) (by decide))
  ·have e : (⟨[115,111,114,116].toArray⟩ : Str) = "sort":=by decide +kernel
   rw [hx,show x = "sort" from (str_is hx).trans e,enc2]
   exact enc_done (by decide) (done _ _ _ (by decide) (by decide))
  ·have e : (⟨[112,114,105,110,116].toArray⟩ : Str) = "print":=by decide +kernel
   rw [hx,show x = "print" from (str_is hx).trans e,enc3]
   exact enc_done (by decide) (done _ _ _ (by decide) (by decide))
 ·exact Sim.stuck
theorem bi_ok : BiOk C:=by
 intro A fl φ H s x cx m vs cvs cf vx r vv hm
 rcases hm with ⟨rfl,rfl⟩ | ⟨rfl,rfl⟩ | ⟨rfl,rfl⟩
 ·induction vx <;> try exact Sim.stuck
  rename_i b t hb
  induction vv with
  | nil=>exact Sim.stuck
  | @cons v cv vs cvs h1 h2=>
  induction h2 with
  | cons=>induction v <;> exact Sim.stuck
  | nil=>
  induction h1 <;> try exact Sim.stuck
  rename_i n hn
  refine Sim.getO fun o e=>?_
  induction o <;> try exact Sim.stuck
  exact p_join r e
 ·induction vx <;> try exact Sim.stuck
  rename_i x t
  induction vv with
  | nil=>exact Sim.stuck
  | @cons v cv vs cvs h1 h2=>
  induction h2 with
  | cons=>induction v <;> exact Sim.stuck
  | nil=>
  induction h1 <;> try exact Sim.stuck
  exact p_split r
 ·induction vx <;> try exact Sim.stuck
  rename_i x t
  induction vv with
  | nil=>exact Sim.stuck
  | @cons v cv vs cvs h1 h2=>
  induction h2 with
  | cons=>induction v <;> exact Sim.stuck
  | nil=>
  induction h1 <;> try exact Sim.stuck
  exact p_encode r
end
section
theorem ns_none {K : Frag} {h : Heap} {a : Addr} {mg : Str→Option Value} {n : Str} (X : K.In h) (G : h.Ns a mg) (e : nsIn K a n = some none) : mg n = none:=by
 (refine ex3_4 G fun o es ep ho hd hk hf=>?_; clear G)
 unfold nsIn at e
 split at e
 ·rename_i c d es' n' sl q
  have:=X _ _ q
  rw [ho] at this
  cases this
  cases hd
  split at e
  ·cases e
  ·rename_i he
   rw [← hf]
   simp only [nsFind,findBy]
   rw [← Array.find?_toList,he]; rfl
 ·injection e
theorem ns_some {K : Frag} {h : Heap} {a : Addr} {mg : Str→Option Value} {n : Str} {v : Value} (X : K.In h) (G : h.Ns a mg) (e : nsIn K a n = some (some v)) : mg n = some v:=by
 (refine ex3_4 G fun o es ep ho hd hk hf=>?_; clear G)
 unfold nsIn at e
 split at e
 ·rename_i c d es' n' sl q
  have:=X _ _ q
  rw [ho] at this
  cases this
  cases hd
  split at e
  ·rename_i en he
   cases e
   rw [← hf]
   simp only [nsFind,findBy]
   rw [← Array.find?_toList,he]; rfl
  ·split at e <;> cases e
 ·injection e
theorem dite_tt {p : Prop} [Decidable p] {f : p→Bool} (h : (if h : p then f h else false) = true) : ∃ q,f q = true:=by
 by_cases q : p
 ·rw [dif_pos q] at h; exact ⟨q,h⟩
 ·rw [dif_neg q] at h; injection h
theorem vNone_inv {c : Value} {f : Bool} (h : vNone c f = true) : c = .none ∧f  = true:=
 (dite_tt h).elim fun q h=>Value.none.elim (motive:=fun c=>∀ q,Value.none.elim (motive:=fun _=>Bool) c q (f) = true→c = .none ∧f  = true) c q (fun _ h=>⟨rfl,h⟩) q h
theorem vBool_inv {c : Value} {f : Bool→Bool} (h : vBool c f = true) : ∃ y0,c = .bool y0∧f y0 = true:=
 (dite_tt h).elim fun q h=>Value.bool.elim (motive:=fun c=>∀ q,Value.bool.elim (motive:=fun _=>Bool) c q (fun b=>f b) = true→∃ y0,c = .bool y0∧f y0 = true) c q (fun _ _ h=>⟨_,rfl,h⟩) q h
theorem vInt_inv {c : Value} {f : Int→Bool} (h : vInt c f = true) : ∃ y0 y1,c = .int y0 y1∧f y0 = true:=
 (dite_tt h).elim fun q h=>Value.int.elim (motive:=fun c=>∀ q,Value.int.elim (motive:=fun _=>Bool) c q (fun i _=>f i) = true→∃ y0 y1,c = .int y0 y1∧f y0 = true) c q (fun _ _ _ h=>⟨_,_,rfl,h⟩) q h
theorem vType_inv {c : Value} {f : String→Bool} (h : vType c f = true) : ∃ y0,c = .type y0∧f y0 = true:=
 (dite_tt h).elim fun q h=>Value.type.elim (motive:=fun c=>∀ q,Value.type.elim (motive:=fun _=>Bool) c q (fun n=>f n) = true→∃ y0,c = .type y0∧f y0 = true) c q (fun _ _ h=>⟨_,rfl,h⟩) q h
theorem vBlt_inv {c : Value} {f : String→Bool} (h : vBlt c f = true) : ∃ y0,c = .builtin y0∧f y0 = true:=
 (dite_tt h).elim fun q h=>Value.builtin.elim (motive:=fun c=>∀ q,Value.builtin.elim (motive:=fun _=>Bool) c q (fun n=>f n) = true→∃ y0,c = .builtin y0∧f y0 = true) c q (fun _ _ h=>⟨_,rfl,h⟩) q h
theorem vRef_inv {c : Value} {f : Addr→Bool} (h : vRef c f = true) : ∃ y0,c = .ref y0∧f y0 = true:=
 (dite_tt h).elim fun q h=>Value.ref.elim (motive:=fun c=>∀ q,Value.ref.elim (motive:=fun _=>Bool) c q (fun a=>f a) = true→∃ y0,c = .ref y0∧f y0 = true) c q (fun _ _ h=>⟨_,rfl,h⟩) q h
theorem isOp_eq {o : Bop} {p : PySem.Operator} (h : isOp o p = true) : p = opOf o:=of_decide_eq_true h
theorem isCo_eq {o : Cop} {p : PySem.CmpOp} (h : isCo o p = true) : p = cmpOf o:=of_decide_eq_true h
noncomputable def Okb (P : Lam→Prop) (x : Ob) : Prop:=match x with
 | some l=>∀ q,q ∈ l→P q
 | none=>False
theorem dite_ob {P : Lam→Prop} {p : Prop} [Decidable p] {f : p→Ob} (h : Okb P (if h : p then f h else none)) : ∃ q,Okb P (f q):=by
 by_cases q : p
 ·rw [dif_pos q] at h; exact ⟨q,h⟩
 ·rw [dif_neg q] at h; exact h.elim
theorem onConst_inv {pe : Expr} {f : (PySem.Const)→Ob} {P : Lam→Prop} (h : Okb P (onConst pe f)) : ∃ c x0 x1,pe = .Constant c x0 x1∧Okb P (f c):=
 (dite_ob h).elim fun q h=>Expr.Constant.elim (motive_1:=fun pe=>∀ q,Okb P (Expr.Constant.elim (motive_1:=fun _=>Ob) pe q (fun c _ _=>f c))→∃ c x0 x1,pe = .Constant c x0 x1∧Okb P (f c)) pe q (fun _ _ _ _ h=>⟨_,_,_,rfl,h⟩) q h
theorem onName_inv {pe : Expr} {f : (Str)→(Pos)→Ob} {P : Lam→Prop} (h : Okb P (onName pe f)) : ∃ nm p,pe = .Name nm p∧Okb P (f nm p):=
 (dite_ob h).elim fun q h=>Expr.Name.elim (motive_1:=fun pe=>∀ q,Okb P (Expr.Name.elim (motive_1:=fun _=>Ob) pe q (fun nm p=>f nm p))→∃ nm p,pe = .Name nm p∧Okb P (f nm p)) pe q (fun _ _ _ h=>⟨_,_,rfl,h⟩) q h
theorem onUn_inv {pe : Expr} {f : (PySem.UnaryOp)→(Expr)→Ob} {P : Lam→Prop} (h : Okb P (onUn pe f)) : ∃ o a x0,pe = .UnaryOp o a x0∧Okb P (f o a):=
 (dite_ob h).elim fun q h=>Expr.UnaryOp.elim (motive_1:=fun pe=>∀ q,Okb P (Expr.UnaryOp.elim (motive_1:=fun _=>Ob) pe q (fun o a _=>f o a))→∃ o a x0,pe = .UnaryOp o a x0∧Okb P (f o a)) pe q (fun _ _ _ _ h=>⟨_,_,_,rfl,h⟩) q h
theorem onBoolOp_inv {pe : Expr} {f : (PySem.BoolOp)→(List Expr)→Ob} {P : Lam→Prop} (h : Okb P (onBoolOp pe f)) : ∃ o a x0,pe = .BoolOp o a x0∧Okb P (f o a):=
 (dite_ob h).elim fun q h=>Expr.BoolOp.elim (motive_1:=fun pe=>∀ q,Okb P (Expr.BoolOp.elim (motive_1:=fun _=>Ob) pe q (fun o a _=>f o a))→∃ o a x0,pe = .BoolOp o a x0∧Okb P (f o a)) pe q (fun _ _ _ _ h=>⟨_,_,_,rfl,h⟩) q h
theorem onIf_inv {pe : Expr} {f : (Expr)→(Expr)→(Expr)→Ob} {P : Lam→Prop} (h : Okb P (onIf pe f)) : ∃ a b c x0,pe = .IfExp a b c x0∧Okb P (f a b c):=
 (dite_ob h).elim fun q h=>Expr.IfExp.elim (motive_1:=fun pe=>∀ q,Okb P (Expr.IfExp.elim (motive_1:=fun _=>Ob) pe q (fun a b c _=>f a b c))→∃ a b c x0,pe = .IfExp a b c x0∧Okb P (f a b c)) pe q (fun _ _ _ _ _ h=>⟨_,_,_,_,rfl,h⟩) q h
theorem onBin_inv {pe : Expr} {f : (Expr)→(PySem.Operator)→(Expr)→Ob} {P : Lam→Prop} (h : Okb P (onBin pe f)) : ∃ a o b x0,pe = .BinOp a o b x0∧Okb P (f a o b):=
 (dite_ob h).elim fun q h=>Expr.BinOp.elim (motive_1:=fun pe=>∀ q,Okb P (Expr.BinOp.elim (motive_1:=fun _=>Ob) pe q (fun a o b _=>f a o b))→∃ a o b x0,pe = .BinOp a o b x0∧Okb P (f a o b)) pe q (fun _ _ _ _ _ h=>⟨_,_,_,_,rfl,h⟩) q h
theorem onCmp_inv {pe : Expr} {f : (Expr)→(List PySem.CmpOp)→(List Expr)→Ob} {P : Lam→Prop} (h : Okb P (onCmp pe f)) : ∃ a o b x0,pe = .Compare a o b x0∧Okb P (f a o b):=
 (dite_ob h).elim fun q h=>Expr.Compare.elim (motive_1:=fun pe=>∀ q,Okb P (Expr.Compare.elim (motive_1:=fun _=>Ob) pe q (fun a o b _=>f a o b))→∃ a o b x0,pe = .Compare a o b x0∧Okb P (f a o b)) pe q (fun _ _ _ _ _ h=>⟨_,_,_,_,rfl,h⟩) q h
theorem onCall_inv {pe : Expr} {f : (Expr)→(List Expr)→(List PySem.Keyword)→(Pos)→Ob} {P : Lam→Prop} (h : Okb P (onCall pe f)) : ∃ a b k p,pe = .Call a b k p∧Okb P (f a b k p):=
 (dite_ob h).elim fun q h=>Expr.Call.elim (motive_1:=fun pe=>∀ q,Okb P (Expr.Call.elim (motive_1:=fun _=>Ob) pe q (fun a b k p=>f a b k p))→∃ a b k p,pe = .Call a b k p∧Okb P (f a b k p)) pe q (fun _ _ _ _ _ h=>⟨_,_,_,_,rfl,h⟩) q h
theorem onAttr_inv {pe : Expr} {f : (Expr)→(Str)→(Pos)→Ob} {P : Lam→Prop} (h : Okb P (onAttr pe f)) : ∃ a nm p,pe = .Attribute a nm p∧Okb P (f a nm p):=
 (dite_ob h).elim fun q h=>Expr.Attribute.elim (motive_1:=fun pe=>∀ q,Okb P (Expr.Attribute.elim (motive_1:=fun _=>Ob) pe q (fun a nm p=>f a nm p))→∃ a nm p,pe = .Attribute a nm p∧Okb P (f a nm p)) pe q (fun _ _ _ _ h=>⟨_,_,_,rfl,h⟩) q h
theorem onList_inv {pe : Expr} {f : (List Expr)→Ob} {P : Lam→Prop} (h : Okb P (onList pe f)) : ∃ a x0,pe = .List a x0∧Okb P (f a):=
 (dite_ob h).elim fun q h=>Expr.List.elim (motive_1:=fun pe=>∀ q,Okb P (Expr.List.elim (motive_1:=fun _=>Ob) pe q (fun a _=>f a))→∃ a x0,pe = .List a x0∧Okb P (f a)) pe q (fun _ _ _ h=>⟨_,_,rfl,h⟩) q h
theorem onTuple_inv {pe : Expr} {f : (List Expr)→Ob} {P : Lam→Prop} (h : Okb P (onTuple pe f)) : ∃ a x0 x1,pe = .Tuple a x0 x1∧Okb P (f a):=
 (dite_ob h).elim fun q h=>Expr.Tuple.elim (motive_1:=fun pe=>∀ q,Okb P (Expr.Tuple.elim (motive_1:=fun _=>Ob) pe q (fun a _ _=>f a))→∃ a x0 x1,pe = .Tuple a x0 x1∧Okb P (f a)) pe q (fun _ _ _ _ h=>⟨_,_,_,rfl,h⟩) q h
theorem onDict_inv {pe : Expr} {f : (List (Option Expr))→(List Expr)→Ob} {P : Lam→Prop} (h : Okb P (onDict pe f)) : ∃ a b x0,pe = .Dict a b x0∧Okb P (f a b):=
 (dite_ob h).elim fun q h=>Expr.Dict.elim (motive_1:=fun pe=>∀ q,Okb P (Expr.Dict.elim (motive_1:=fun _=>Ob) pe q (fun a b _=>f a b))→∃ a b x0,pe = .Dict a b x0∧Okb P (f a b)) pe q (fun _ _ _ _ h=>⟨_,_,_,rfl,h⟩) q h
theorem onSub_inv {pe : Expr} {f : (Expr)→(Expr)→Ob} {P : Lam→Prop} (h : Okb P (onSub pe f)) : ∃ a b x0,pe = .Subscript a b x0∧Okb P (f a b):=
 (dite_ob h).elim fun q h=>Expr.Subscript.elim (motive_1:=fun pe=>∀ q,Okb P (Expr.Subscript.elim (motive_1:=fun _=>Ob) pe q (fun a b _=>f a b))→∃ a b x0,pe = .Subscript a b x0∧Okb P (f a b)) pe q (fun _ _ _ _ h=>⟨_,_,_,rfl,h⟩) q h
theorem onSlice_inv {pe : Expr} {f : (Option Expr)→(Option Expr)→(Option Expr)→Ob} {P : Lam→Prop} (h : Okb P (onSlice pe f)) : ∃ a b c x0,pe = .Slice a b c x0∧Okb P (f a b c):=
 (dite_ob h).elim fun q h=>Expr.Slice.elim (motive_1:=fun pe=>∀ q,Okb P (Expr.Slice.elim (motive_1:=fun _=>Ob) pe q (fun a b c _=>f a b c))→∃ a b c x0,pe = .Slice a b c x0∧Okb P (f a b c)) pe q (fun _ _ _ _ _ h=>⟨_,_,_,_,rfl,h⟩) q h
theorem onLam_inv {pe : Expr} {f : (Arguments)→(Expr)→(Scope)→Ob} {P : Lam→Prop} (h : Okb P (onLam pe f)) : ∃ a b s x0,pe = .Lambda a b s x0∧Okb P (f a b s):=
 (dite_ob h).elim fun q h=>Expr.Lambda.elim (motive_1:=fun pe=>∀ q,Okb P (Expr.Lambda.elim (motive_1:=fun _=>Ob) pe q (fun a b s _=>f a b s))→∃ a b s x0,pe = .Lambda a b s x0∧Okb P (f a b s)) pe q (fun _ _ _ _ _ h=>⟨_,_,_,_,rfl,h⟩) q h
theorem onComp_inv {pe : Expr} {f : (Expr)→(List PySem.Comprehension)→(Scope)→Ob} {P : Lam→Prop} (h : Okb P (onComp pe f)) : ∃ a b s x0,pe = .ListComp a b s x0∧Okb P (f a b s):=
 (dite_ob h).elim fun q h=>Expr.ListComp.elim (motive_1:=fun pe=>∀ q,Okb P (Expr.ListComp.elim (motive_1:=fun _=>Ob) pe q (fun a b s _=>f a b s))→∃ a b s x0,pe = .ListComp a b s x0∧Okb P (f a b s)) pe q (fun _ _ _ _ _ h=>⟨_,_,_,_,rfl,h⟩) q h
theorem onExpr_inv {pe : Stmt} {f : (Expr)→Ob} {P : Lam→Prop} (h : Okb P (onExpr pe f)) : ∃ a x0,pe = .Expr a x0∧Okb P (f a):=
 (dite_ob h).elim fun q h=>Stmt.Expr.elim (motive_2:=fun pe=>∀ q,Okb P (Stmt.Expr.elim (motive_2:=fun _=>Ob) pe q (fun a _=>f a))→∃ a x0,pe = .Expr a x0∧Okb P (f a)) pe q (fun _ _ _ h=>⟨_,_,rfl,h⟩) q h
theorem onAssign_inv {pe : Stmt} {f : (List Expr)→(Expr)→Ob} {P : Lam→Prop} (h : Okb P (onAssign pe f)) : ∃ a b x0,pe = .Assign a b x0∧Okb P (f a b):=
 (dite_ob h).elim fun q h=>Stmt.Assign.elim (motive_2:=fun pe=>∀ q,Okb P (Stmt.Assign.elim (motive_2:=fun _=>Ob) pe q (fun a b _=>f a b))→∃ a b x0,pe = .Assign a b x0∧Okb P (f a b)) pe q (fun _ _ _ _ h=>⟨_,_,_,rfl,h⟩) q h
theorem onAug_inv {pe : Stmt} {f : (Expr)→(PySem.Operator)→(Expr)→Ob} {P : Lam→Prop} (h : Okb P (onAug pe f)) : ∃ a o b x0,pe = .AugAssign a o b x0∧Okb P (f a o b):=
 (dite_ob h).elim fun q h=>Stmt.AugAssign.elim (motive_2:=fun pe=>∀ q,Okb P (Stmt.AugAssign.elim (motive_2:=fun _=>Ob) pe q (fun a o b _=>f a o b))→∃ a o b x0,pe = .AugAssign a o b x0∧Okb P (f a o b)) pe q (fun _ _ _ _ _ h=>⟨_,_,_,_,rfl,h⟩) q h
theorem onIfS_inv {pe : Stmt} {f : (Expr)→(List Stmt)→(List Stmt)→Ob} {P : Lam→Prop} (h : Okb P (onIfS pe f)) : ∃ a b c x0,pe = .If a b c x0∧Okb P (f a b c):=
 (dite_ob h).elim fun q h=>Stmt.If.elim (motive_2:=fun pe=>∀ q,Okb P (Stmt.If.elim (motive_2:=fun _=>Ob) pe q (fun a b c _=>f a b c))→∃ a b c x0,pe = .If a b c x0∧Okb P (f a b c)) pe q (fun _ _ _ _ _ h=>⟨_,_,_,_,rfl,h⟩) q h
theorem onWhile_inv {pe : Stmt} {f : (Expr)→(List Stmt)→(List Stmt)→Ob} {P : Lam→Prop} (h : Okb P (onWhile pe f)) : ∃ a b c x0,pe = .While a b c x0∧Okb P (f a b c):=
 (dite_ob h).elim fun q h=>Stmt.While.elim (motive_2:=fun pe=>∀ q,Okb P (Stmt.While.elim (motive_2:=fun _=>Ob) pe q (fun a b c _=>f a b c))→∃ a b c x0,pe = .While a b c x0∧Okb P (f a b c)) pe q (fun _ _ _ _ _ h=>⟨_,_,_,_,rfl,h⟩) q h
theorem onFor_inv {pe : Stmt} {f : (Expr)→(Expr)→(List Stmt)→(List Stmt)→Ob} {P : Lam→Prop} (h : Okb P (onFor pe f)) : ∃ a i b c x0,pe = .For a i b c x0∧Okb P (f a i b c):=
 (dite_ob h).elim fun q h=>Stmt.For.elim (motive_2:=fun pe=>∀ q,Okb P (Stmt.For.elim (motive_2:=fun _=>Ob) pe q (fun a i b c _=>f a i b c))→∃ a i b c x0,pe = .For a i b c x0∧Okb P (f a i b c)) pe q (fun _ _ _ _ _ _ h=>⟨_,_,_,_,_,rfl,h⟩) q h
theorem onReturn_inv {pe : Stmt} {f : (Option Expr)→Ob} {P : Lam→Prop} (h : Okb P (onReturn pe f)) : ∃ a x0,pe = .Return a x0∧Okb P (f a):=
 (dite_ob h).elim fun q h=>Stmt.Return.elim (motive_2:=fun pe=>∀ q,Okb P (Stmt.Return.elim (motive_2:=fun _=>Ob) pe q (fun a _=>f a))→∃ a x0,pe = .Return a x0∧Okb P (f a)) pe q (fun _ _ _ h=>⟨_,_,rfl,h⟩) q h
theorem onRaise_inv {pe : Stmt} {f : (Option Expr)→(Option Expr)→Ob} {P : Lam→Prop} (h : Okb P (onRaise pe f)) : ∃ a b x0,pe = .Raise a b x0∧Okb P (f a b):=
 (dite_ob h).elim fun q h=>Stmt.Raise.elim (motive_2:=fun pe=>∀ q,Okb P (Stmt.Raise.elim (motive_2:=fun _=>Ob) pe q (fun a b _=>f a b))→∃ a b x0,pe = .Raise a b x0∧Okb P (f a b)) pe q (fun _ _ _ _ h=>⟨_,_,_,rfl,h⟩) q h
theorem onTry_inv {pe : Stmt} {f : (List Stmt)→(List PySem.ExceptHandler)→(List Stmt)→(List Stmt)→Ob} {P : Lam→Prop} (h : Okb P (onTry pe f)) : ∃ a b c d x0,pe = .Try a b c d x0∧Okb P (f a b c d):=
 (dite_ob h).elim fun q h=>Stmt.Try.elim (motive_2:=fun pe=>∀ q,Okb P (Stmt.Try.elim (motive_2:=fun _=>Ob) pe q (fun a b c d _=>f a b c d))→∃ a b c d x0,pe = .Try a b c d x0∧Okb P (f a b c d)) pe q (fun _ _ _ _ _ _ h=>⟨_,_,_,_,_,rfl,h⟩) q h
theorem onBreak_inv {pe : Stmt} {f : Ob} {P : Lam→Prop} (h : Okb P (onBreak pe f)) : ∃ x0,pe = .Break x0∧Okb P (f):=
 (dite_ob h).elim fun q h=>Stmt.Break.elim (motive_2:=fun pe=>∀ q,Okb P (Stmt.Break.elim (motive_2:=fun _=>Ob) pe q (fun _=>f))→∃ x0,pe = .Break x0∧Okb P (f)) pe q (fun _ _ h=>⟨_,rfl,h⟩) q h
theorem onPass_inv {pe : Stmt} {f : Ob} {P : Lam→Prop} (h : Okb P (onPass pe f)) : ∃ x0,pe = .Pass x0∧Okb P (f):=
 (dite_ob h).elim fun q h=>Stmt.Pass.elim (motive_2:=fun pe=>∀ q,Okb P (Stmt.Pass.elim (motive_2:=fun _=>Ob) pe q (fun _=>f))→∃ x0,pe = .Pass x0∧Okb P (f)) pe q (fun _ _ h=>⟨_,rfl,h⟩) q h
theorem onFn_inv {pe : Stmt} {f : (Arguments)→(List Stmt)→(List Expr)→(Option Expr)→(List PySem.TypeParam)→(Scope)→(Str)→Ob} {P : Lam→Prop} (h : Okb P (onFn pe f)) : ∃ x0 a b d r tp s x1 nm x2,pe = .FunctionDef x0 a b d r tp s x1 nm x2∧Okb P (f a b d r tp s nm):=
 (dite_ob h).elim fun q h=>Stmt.FunctionDef.elim (motive_2:=fun pe=>∀ q,Okb P (Stmt.FunctionDef.elim (motive_2:=fun _=>Ob) pe q (fun _ a b d r tp s _ nm _=>f a b d r tp s nm))→∃ x0 a b d r tp s x1 nm x2,pe = .FunctionDef x0 a b d r tp s x1 nm x2∧Okb P (f a b d r tp s nm)) pe q (fun _ _ _ _ _ _ _ _ _ _ _ h=>⟨_,_,_,_,_,_,_,_,_,_,rfl,h⟩) q h
theorem cBool_inv {pe : PySem.Const} {f : (Bool)→Ob} {P : Lam→Prop} (h : Okb P (cBool pe f)) : ∃ b,pe = .bool b∧Okb P (f b):=
 (dite_ob h).elim fun q h=>PySem.Const.bool.elim (motive:=fun pe=>∀ q,Okb P (PySem.Const.bool.elim (motive:=fun _=>Ob) pe q (fun b=>f b))→∃ b,pe = .bool b∧Okb P (f b)) pe q (fun _ _ h=>⟨_,rfl,h⟩) q h
theorem cInt_inv {pe : PySem.Const} {f : (Int)→Ob} {P : Lam→Prop} (h : Okb P (cInt pe f)) : ∃ b,pe = .int b∧Okb P (f b):=
 (dite_ob h).elim fun q h=>PySem.Const.int.elim (motive:=fun pe=>∀ q,Okb P (PySem.Const.int.elim (motive:=fun _=>Ob) pe q (fun b=>f b))→∃ b,pe = .int b∧Okb P (f b)) pe q (fun _ _ h=>⟨_,rfl,h⟩) q h
theorem cStr_inv {pe : PySem.Const} {f : (Str)→Ob} {P : Lam→Prop} (h : Okb P (cStr pe f)) : ∃ b,pe = .str b∧Okb P (f b):=
 (dite_ob h).elim fun q h=>PySem.Const.str.elim (motive:=fun pe=>∀ q,Okb P (PySem.Const.str.elim (motive:=fun _=>Ob) pe q (fun b=>f b))→∃ b,pe = .str b∧Okb P (f b)) pe q (fun _ _ h=>⟨_,rfl,h⟩) q h
theorem cBytes_inv {pe : PySem.Const} {f : (List UInt8)→Ob} {P : Lam→Prop} (h : Okb P (cBytes pe f)) : ∃ b,pe = .bytes b∧Okb P (f b):=
 (dite_ob h).elim fun q h=>PySem.Const.bytes.elim (motive:=fun pe=>∀ q,Okb P (PySem.Const.bytes.elim (motive:=fun _=>Ob) pe q (fun b=>f b))→∃ b,pe = .bytes b∧Okb P (f b)) pe q (fun _ _ h=>⟨_,rfl,h⟩) q h
theorem cNone_inv {pe : PySem.Const} {f : Ob} {P : Lam→Prop} (h : Okb P (cNone pe f)) : pe = .none ∧Okb P (f):=
 (dite_ob h).elim fun q h=>PySem.Const.none.elim (motive:=fun pe=>∀ q,Okb P (PySem.Const.none.elim (motive:=fun _=>Ob) pe q (f))→pe = .none ∧Okb P (f)) pe q (fun _ h=>⟨rfl,h⟩) q h
theorem on1_inv {α : Type} {l : List α} {f : α→Ob} {P : Lam→Prop} (h : Okb P (on1 l f)) : ∃ a,l = [a]∧Okb P (f a):=by
 induction l using List.casesOn with
 | nil=>exact h.elim
 | cons a t=>induction t using List.casesOn with
  | nil=>exact in1_2 a rfl h
  | cons=>exact h.elim
theorem onNil_inv {α : Type} {l : List α} {x : Ob} {P : Lam→Prop} (h : Okb P (onNil l x)) : l = []∧Okb P (x):=by
 induction l using List.casesOn with
 | nil=>exact ⟨rfl,h⟩
 | cons=>exact h.elim
theorem onSome_inv {α : Type} {l : Option α} {f : α→Ob} {P : Lam→Prop} (h : Okb P (onSome l f)) : ∃ a,l = some a∧Okb P (f a):=by
 induction l using Option.casesOn with
 | none=>exact h.elim
 | some a=>exact in1_2 a rfl h
theorem onNone_inv {α : Type} {l : Option α} {x : Ob} {P : Lam→Prop} (h : Okb P (onNone l x)) : l = none∧Okb P (x):=by
 induction l using Option.casesOn with
 | none=>exact ⟨rfl,h⟩
 | some=>exact h.elim
theorem onHd_inv {g : PySem.ExceptHandler} {f : Option Expr→Option Str→List Stmt→Ob} {P : Lam→Prop} (h : Okb P (onHd g f)) : ∃ a b c p,g = .ExceptHandler a b c p∧Okb P (f a b c):=by
 cases g; exact in4_2 _ _ _ _ rfl h
theorem onLoc_inv {t : T} {f : Nat→Ob} {P : Lam→Prop} (h : Okb P (onLoc t f)) : ∃ x,t = .loc x∧Okb P (f x):=
 (dite_ob h).elim fun q h=>T.loc.elim (motive:=fun t=>∀ q,Okb P (T.loc.elim (motive:=fun _=>Ob) t q f)→∃ x,t = .loc x∧Okb P (f x)) t q (fun _ _ h=>⟨_,rfl,h⟩) q h
theorem on2_inv {α : Type} {l : List α} {f : α→α→Ob} {P : Lam→Prop} (h : Okb P (on2 l f)) : ∃ a b,l = [a,b]∧Okb P (f a b):=by
 induction l using List.casesOn with
 | nil=>exact h.elim
 | cons a t=>
  (refine ex1_2 (on1_inv (l:=t) (f:=f a) h) fun b z1q h=>?_; subst z1q)
  exact in2_2 a b rfl h
theorem onAttrE_inv {e : E} {f : E→Nat→Ob} {P : Lam→Prop} (h : Okb P (onAttrE e f)) : ∃ x m,e = .attr x m∧Okb P (f x m):=
 (dite_ob h).elim fun q h=>E.attr.elim (motive_1:=fun e=>∀ q,Okb P (E.attr.elim (motive_1:=fun _=>Ob) e q f)→∃ x m,e = .attr x m∧Okb P (f x m)) e q (fun _ _ _ h=>⟨_,_,rfl,h⟩) q h
theorem onLocE_inv {e : E} {f : Nat→Ob} {P : Lam→Prop} (h : Okb P (onLocE e f)) : ∃ x,e = .loc x∧Okb P (f x):=
 (dite_ob h).elim fun q h=>E.loc.elim (motive_1:=fun e=>∀ q,Okb P (E.loc.elim (motive_1:=fun _=>Ob) e q f)→∃ x,e = .loc x∧Okb P (f x)) e q (fun _ _ h=>⟨_,rfl,h⟩) q h
theorem onAt_inv {e : E} {f : Nat→Nat→Ob} {P : Lam→Prop} (h : Okb P (onAt e f)) : ∃ x m,e = .attr (.loc x) m∧Okb P (f x m):=by
 (refine ex2_2 (onAttrE_inv h) fun e m z2q h=>?_; subst z2q)
 (refine ex1_2 (onLocE_inv h) fun x z3q h=>?_; subst z3q)
 exact in2_2 x m rfl h
theorem plainArgs_eq {a : Arguments} (h : plainArgs a = true) : a = ⟨[],a.args,none,[],[],none,[]⟩:=by
 obtain ⟨p,b,v,k,kd,kw,d⟩:=a
 unfold plainArgs at h
 simp only [Bool.and_eq_true] at h
 obtain ⟨⟨⟨⟨⟨h1,h2⟩,h3⟩,h4⟩,h5⟩,h6⟩:=h
 rw [List.isEmpty_iff.mp h1,Option.isNone_iff_eq_none.mp h2,List.isEmpty_iff.mp h3,List.isEmpty_iff.mp h4,Option.isNone_iff_eq_none.mp h5,List.isEmpty_iff.mp h6]
theorem onRet1_inv {b : List Stmt} {f : Expr→Ob} {P : Lam→Prop} (h : Okb P (onRet1 b f)) : ∃ pe p,b = [.Return (some pe) p]∧Okb P (f pe):=by
 (refine ex1_2 (on1_inv h) fun r z4q h=>?_; subst z4q)
 (refine ex2_2 (onReturn_inv h) fun o p z5q h=>?_; subst z5q)
 (refine ex1_2 (onSome_inv h) fun pe z6q h=>?_; subst z6q)
 exact in2_2 pe p rfl h
theorem onHd1_inv {hs : List PySem.ExceptHandler} {f : Str→Pos→Str→List Stmt→Ob} {P : Lam→Prop} (h : Okb P (onHd1 hs f)) : ∃ cnm cp nm hb p,hs = [.ExceptHandler (some (.Name cnm cp)) (some nm) hb p]∧Okb P (f cnm cp nm hb):=by
 (refine ex1_2 (on1_inv h) fun hd z7q h=>?_; subst z7q)
 (refine ex4_2 (onHd_inv h) fun ct onm hb p2 z8q h=>?_; subst z8q)
 (refine ex1_2 (onSome_inv h) fun cx z9q h=>?_; subst z9q)
 (refine ex2_2 (onName_inv h) fun cnm cp z10q h=>?_; subst z10q)
 (refine ex1_2 (onSome_inv h) fun nm z11q h=>?_; subst z11q)
 exact in5_2 _ _ _ _ _ rfl h
theorem onNA_inv {ra : Expr} {f : Str→Str→Ob} {P : Lam→Prop} (h : Okb P (onNA ra f)) : ∃ nm p an q,ra = .Attribute (.Name nm p) an q∧Okb P (f nm an):=by
 (refine ex3_2 (onAttr_inv h) fun rb an q z12q h=>?_; subst z12q)
 (refine ex2_2 (onName_inv h) fun nm p z13q h=>?_; subst z13q)
 exact in4_2 _ _ _ _ rfl h
end
section
variable {C : Cx} {K : Frag}
structure CkOk (C : Cx) (K : Frag) : Prop where
 an : C.an = anT
 fa : C.fa = faT
 ca : C.ca = caT
 gl : ∀ nm v,glK K nm = some v→C.mg nm = some v ∨ (C.mg nm = none∧C.mb nm = some v)
 tab : ∀ cdv cd P,tabOf K cdv = some (cd,P)→cdv = .ref cd∧CodeHd C.base cd P∧P ∈ C.tabs
noncomputable def Lok (C : Cx) (q : Lam) : Prop:=C.par q.1 = q.2.1∧C.bod q.1 = q.2.2.1∧C.sco q.1 = q.2.2.2∧C.cod q.1 = .none
theorem and_ok {x y : Ob} {l : List Lam} (h : x.and y = some l) : ∃ a b,x = some a∧y = some b∧l = a ++ b:=by
 induction x using Option.casesOn with
 | none=>injection h
 | some a=>
  induction y using Option.casesOn with
  | none=>injection h
  | some b=>cases h; exact in2_3 a b rfl rfl rfl
theorem gd_ok {b : Bool} {l : List Lam} (h : gd b = some l) : b = true:=by
 induction b with
 | false=>injection h
 | true=>rfl
theorem and_Ok {P : Lam→Prop} {x y : Ob} (h : Okb P (x.and y)) : Okb P x∧Okb P y:=by
 induction x using Option.casesOn with
 | none=>exact h.elim
 | some a=>
  induction y using Option.casesOn with
  | none=>exact h.elim
  | some b=>exact ⟨fun q hq=>h q (List.mem_append_left _ hq),fun q hq=>h q (List.mem_append_right _ hq)⟩
theorem gd_Ok {P : Lam→Prop} {b : Bool} (h : Okb P (gd b)) : b = true:=by
 induction b with
 | false=>exact h.elim
 | true=>rfl
theorem nameAt_ok {l : List Str} {x : Nat} {nm : Str} (h : nameAt l x nm = true) : l[x]? = some nm:=by
 unfold nameAt at h
 split at h
 ·rename_i y e
  rw [e,of_decide_eq_true h]
 ·injection h
theorem plainNm_ok {nm : Str} (h : plainNm nm = true) : (nm == ("__debug__" : Str)) = false∧(nm == ("__classdict__" : Str)) = false:=by
 unfold plainNm at h
 rw [Bool.and_eq_true] at h
 exact ⟨by simpa using h.1,by simpa using h.2⟩
theorem capsOk_ok {sc lsc : Scope} : ∀ {c : List Nat} {l : List Str},capsOk sc lsc c l = true→All2 (fun (j : Nat) x=>(celNames sc)[j]? = some x) c l
 | [],[],_=>.nil
 | [],_ :: _,h=>by injection h
 | _ :: _,[],h=>by injection h
 | j :: c,x :: l,h=>by
  unfold capsOk at h
  rw [Bool.and_eq_true] at h
  exact .cons (nameAt_ok h.1) (capsOk_ok h.2)
theorem chkV_ok (D : CkOk C K) {v : V} {cv : Value} (h : chkV v cv = true) : ∀ φ N,VR C φ N v cv:=by
 intro φ N
 induction v with
 | none=>obtain ⟨rfl,h⟩:=vNone_inv h; exact .none
 | bool b=>(refine ex1_2 (vBool_inv h) fun x z1q h=>?_; subst z1q); rw [beq_iff_eq.mp h]; exact .bool _
 | int i=>(refine ex2_2 (vInt_inv h) fun j t z2q h=>?_; subst z2q); rw [of_decide_eq_true h]; exact .int _ _
 | fn k=>(refine ex1_2 (vRef_inv h) fun a z3q h=>?_; subst z3q); rw [Nat.eq_of_beq_eq_true h,← D.fa]; exact .fn k
 | cls k=>(refine ex1_2 (vRef_inv h) fun a z4q h=>?_; subst z4q); rw [Nat.eq_of_beq_eq_true h,← D.ca]; exact .cls k
 | ty k=>(refine ex1_2 (vType_inv h) fun n z5q h=>?_; subst z5q); rw [beq_iff_eq.mp h]; exact .ty k
 | blt k=>(refine ex1_2 (vBlt_inv h) fun n z6q h=>?_; subst z6q); rw [beq_iff_eq.mp h]; exact .blt k
 | bytes=>injection h
 | str=>injection h
 | ref=>injection h
theorem chkL_all {α β : Type} {R : α→β→Prop} {f : α→β→Ob} (hf : ∀ e pe,Okb (Lok C) (f e pe)→R e pe) :
  ∀ {es : List α} {pes : List β},Okb (Lok C) (chkL f es pes)→All2 R es pes
 | [],[],_=>.nil
 | [],_ :: _,h=>h.elim
 | _ :: _,[],h=>h.elim
 | e :: es,pe :: pes,h=>.cons (hf _ _ (and_Ok h).1) (chkL_all hf (and_Ok h).2)
theorem chkE_n (D : CkOk C K) (cdv : Value) : ∀ (n : Nat) (sc : Scope) (e : E) (pe : Expr),Okb (Lok C) (chkE K cdv n sc e pe)→TrEn C cdv n sc e pe
 | 0,sc,e,pe,h=>h.elim
 | n + 1,sc,e,pe,h=>by
  have ih:=chkE_n D cdv n
  induction e using Mp.E.casesOn
  case oth=>exact trivial
  case cst v=>
   refine ex3_2 (onConst_inv h) fun c a b eq1 h_=>?_
   clear h
   rename Okb _ _=>h
   subst eq1
   induction v <;> try (exact h.elim)
   ·obtain ⟨rfl,h⟩:=cNone_inv h; exact in3_2 _ _ _ rfl .none
   ·(refine ex1_2 (cBool_inv h) fun x z7q h=>?_; subst z7q); rw [beq_iff_eq.mp (gd_Ok h)]; exact in3_2 _ _ _ rfl .bool
   ·(refine ex1_2 (cInt_inv h) fun x z8q h=>?_; subst z8q); rw [of_decide_eq_true (gd_Ok h)]; exact in3_2 _ _ _ rfl .int
   ·refine ex1_2 (cBytes_inv h) fun x eq1 h_=>?_
    clear h
    rename Okb _ _=>h
    subst eq1
    have:=gd_Ok h
    rw [Bool.and_eq_true] at this
    rw [← of_decide_eq_true this.1]; exact in3_2 _ _ _ rfl (.bytes (Nat.le_of_ble_eq_true this.2))
   ·(refine ex1_2 (cStr_inv h) fun x z9q h=>?_; subst z9q); rw [← of_decide_eq_true (gd_Ok h)]; exact in3_2 _ _ _ rfl .str
  case loc x=>
   refine ex2_2 (onName_inv h) fun nm p eq1 h_=>?_
   clear h
   rename Okb _ _=>h
   subst eq1
   have:=gd_Ok h
   rw [Bool.and_eq_true] at this
   exact in2_3 _ _ rfl (nameAt_ok this.1) ((plainNm_ok this.2).1)
  case cel x=>
   refine ex2_2 (onName_inv h) fun nm p eq1 h_=>?_
   clear h
   rename Okb _ _=>h
   subst eq1
   have:=gd_Ok h
   rw [Bool.and_eq_true] at this
   exact in2_4 _ _ rfl (nameAt_ok this.1) ((plainNm_ok this.2).1) ((plainNm_ok this.2).2)
  case glo v=>
   refine ex2_2 (onName_inv h) fun nm p eq1 h_=>?_
   clear h
   refine ex1_2 (onSome_inv h_) fun cv e h=>?_
   clear h_
   subst eq1
   have:=gd_Ok h
   rw [Bool.and_eq_true,Bool.and_eq_true] at this
   exact in3_5 _ _ _ rfl (of_decide_eq_true this.1.2) ((plainNm_ok this.2).1) (D.gl _ _ e) (chkV_ok D this.1.1)
  case not a=>
   refine ex3_2 (onUn_inv h) fun o pa p eq1 h_=>?_
   clear h
   rename Okb _ _=>h
   subst eq1
   obtain ⟨h1,h2⟩:=and_Ok h
   cases of_decide_eq_true (gd_Ok h1)
   exact in2_2 _ _ rfl (ih _ _ _ h2)
  case neg a=>
   refine ex3_2 (onUn_inv h) fun o pa p eq1 h_=>?_
   clear h
   rename Okb _ _=>h
   subst eq1
   obtain ⟨h1,h2⟩:=and_Ok h
   cases of_decide_eq_true (gd_Ok h1)
   exact in2_2 _ _ rfl (ih _ _ _ h2)
  case and as=>
   refine ex3_2 (onBoolOp_inv h) fun o pas p eq1 h_=>?_
   clear h
   rename Okb _ _=>h
   subst eq1
   obtain ⟨h1,h2⟩:=and_Ok h
   cases of_decide_eq_true (gd_Ok h1)
   exact in2_2 _ _ rfl (chkL_all (fun e pe h=>ih _ _ _ h) h2)
  case or as=>
   refine ex3_2 (onBoolOp_inv h) fun o pas p eq1 h_=>?_
   clear h
   rename Okb _ _=>h
   subst eq1
   obtain ⟨h1,h2⟩:=and_Ok h
   cases of_decide_eq_true (gd_Ok h1)
   exact in2_2 _ _ rfl (chkL_all (fun e pe h=>ih _ _ _ h) h2)
  case ite c a b=>
   refine ex4_2 (onIf_inv h) fun pc pa pb p eq1 h_=>?_
   clear h
   rename Okb _ _=>h
   subst eq1
   obtain ⟨h1,h2⟩:=and_Ok h
   obtain ⟨h3,h4⟩:=and_Ok h2
   exact in4_4 _ _ _ _ rfl (ih _ _ _ h1) (ih _ _ _ h3) (ih _ _ _ h4)
  case bin o a b=>
   refine ex4_2 (onBin_inv h) fun pa po pb p eq1 h_=>?_
   clear h
   rename Okb _ _=>h
   subst eq1
   obtain ⟨h1,h2⟩:=and_Ok h
   obtain ⟨h3,h4⟩:=and_Ok h2
   rw [isOp_eq (gd_Ok h1)]
   exact in3_3 _ _ _ rfl (ih _ _ _ h3) (ih _ _ _ h4)
  case cmp o a b=>
   refine ex4_2 (onCmp_inv h) fun pa pos pbs p eq1 h_=>?_
   clear h
   refine ex1_2 (on1_inv h_) fun po eq2 h=>?_
   clear h_
   refine ex1_2 (on1_inv h) fun pb eq3 h_=>?_
   clear h
   rename Okb _ _=>h
   subst eq1 eq2 eq3
   obtain ⟨h1,h2⟩:=and_Ok h
   obtain ⟨h3,h4⟩:=and_Ok h2
   have:=gd_Ok h1
   rw [Bool.and_eq_true] at this
   rw [isCo_eq this.1]
   exact in3_4 _ _ _ rfl (ih _ _ _ h3) (ih _ _ _ h4) (by simpa using this.2)
  case call f as=>
   refine ex4_2 (onCall_inv h) fun pf pas ks p eq1 h_=>?_
   clear h
   obtain ⟨eq2,h⟩:=onNil_inv h_
   clear h_
   subst eq1 eq2
   obtain ⟨h1,h2⟩:=and_Ok h
   obtain ⟨h3,h4⟩:=and_Ok h2
   have:=gd_Ok h1
   rw [Bool.and_eq_true,Bool.and_eq_true] at this
   exact in3_6 _ _ _ rfl (ih _ _ _ h3) (chkL_all (fun e pe h=>ih _ _ _ h) h4) this.1.1 this.1.2 (Nat.le_of_ble_eq_true this.2)
  case meth o m as=>
   refine ex4_2 (onCall_inv h) fun pf pas ks p eq1 h_=>?_
   clear h
   obtain ⟨eq2,h⟩:=onNil_inv h_
   clear h_
   refine ex3_2 (onAttr_inv h) fun po nm ap eq3 h_=>?_
   clear h
   rename Okb _ _=>h
   subst eq1 eq2 eq3
   obtain ⟨h1,h2⟩:=and_Ok h
   obtain ⟨h3,h4⟩:=and_Ok h2
   have:=gd_Ok h1
   simp only [Bool.and_eq_true] at this
   have en : mnT m = mName C m:=by unfold mnT mName; rw [D.an]
   rw [of_decide_eq_true this.1.1.1.1,en]
   exact in4_7 _ _ _ _ rfl (ih _ _ _ h3) (chkL_all (fun e pe h=>ih _ _ _ h) h4) this.1.1.1.2 this.1.1.2 (Nat.le_of_ble_eq_true this.1.2) this.2
  case attr o m=>
   refine ex3_2 (onAttr_inv h) fun po nm ap eq1 h_=>?_
   clear h
   rename Okb _ _=>h
   subst eq1
   obtain ⟨h1,h2⟩:=and_Ok h
   have:=gd_Ok h1
   simp only [Bool.and_eq_true] at this
   rw [of_decide_eq_true this.1,← D.an]
   exact in2_3 _ _ rfl (ih _ _ _ h2) this.2
  case lst as=>
   refine ex2_2 (onList_inv h) fun pas p eq1 h_=>?_
   clear h
   rename Okb _ _=>h
   subst eq1
   obtain ⟨h1,h2⟩:=and_Ok h
   have:=gd_Ok h1
   simp only [Bool.and_eq_true] at this
   exact in2_4 _ _ rfl (chkL_all (fun e pe h=>ih _ _ _ h) h2) this.1 (Nat.le_of_ble_eq_true this.2)
  case tup as=>
   refine ex3_2 (onTuple_inv h) fun pas k p eq1 h_=>?_
   clear h
   rename Okb _ _=>h
   subst eq1
   obtain ⟨h1,h2⟩:=and_Ok h
   have:=gd_Ok h1
   simp only [Bool.and_eq_true] at this
   exact in3_4 _ _ _ rfl (chkL_all (fun e pe h=>ih _ _ _ h) h2) this.1 (Nat.le_of_ble_eq_true this.2)
  case dic=>
   refine ex3_2 (onDict_inv h) fun a b p eq1 h_=>?_
   clear h
   obtain ⟨eq2,h⟩:=onNil_inv h_
   clear h_
   obtain ⟨eq3,h_⟩:=onNil_inv h
   clear h
   rename Okb _ _=>h
   subst eq1 eq2 eq3
   exact ⟨_,rfl⟩
  case sub o i=>
   refine ex3_2 (onSub_inv h) fun po pi p eq1 h_=>?_
   clear h
   rename Okb _ _=>h
   subst eq1
   obtain ⟨h1,h2⟩:=and_Ok h
   obtain ⟨h3,h4⟩:=and_Ok h2
   exact in3_4 _ _ _ rfl (ih _ _ _ h3) (ih _ _ _ h4) (gd_Ok h1)
  case slc o lo hi=>
   refine ex3_2 (onSub_inv h) fun po pi p eq1 h_=>?_
   clear h
   refine ex4_2 (onSlice_inv h_) fun plo phi ps q eq2 h=>?_
   clear h_
   obtain ⟨eq3,h_⟩:=onNone_inv h
   clear h
   rename Okb _ _=>h
   subst eq1 eq2 eq3
   obtain ⟨h1,h2⟩:=and_Ok h
   obtain ⟨h3,h4⟩:=and_Ok h2
   have op : ∀ {a : Option E} {b : Option Expr},Okb (Lok C) (chkO (chkE K cdv n sc) a b)→OptO (TrEn C cdv n sc) a b:=fun {a b} h=>by
    induction a using Option.casesOn <;> induction b using Option.casesOn <;> first | exact .none | exact .some (ih _ _ _ h) | exact h.elim
   exact in5_4 _ _ _ _ _ rfl (ih _ _ _ h1) (op h3) (op h4)
  case lam k c=>
   refine ex4_2 (onLam_inv h) fun a b s p eq1 h_=>?_
   clear h
   rename Okb _ _=>h
   subst eq1
   obtain ⟨h1,h2⟩:=and_Ok h
   have:=gd_Ok h1
   simp only [Bool.and_eq_true] at this
   refine ex0_4 (h2 _ (.head _)) fun q1 q2 q3 q4=>?_
   obtain ⟨⟨cd,P⟩,e⟩:=Option.isSome_iff_exists.mp this.2
   refine ex0_3 (D.tab _ _ _ e) fun t1 t2 t3=>?_
   exact ⟨_,_,_,_,_,_,rfl,this.1.1.1.1,q1,q2,q3,(List.isEmpty_iff.mp this.1.1.1.2),(List.isEmpty_iff.mp this.1.1.2),(capsOk_ok this.1.2),q4,t1,t2,t3⟩
  case comp elt x nl c it cond=>
   refine ex4_2 (onComp_inv h) fun pelt gs csc p eq1 h_=>?_
   clear h
   refine ex1_2 (on1_inv h_) fun g eq2 h=>?_
   clear h_
   subst eq1 eq2
   obtain ⟨tg,pit,ifs,asy⟩:=g
   refine ex2_2 (onName_inv h) fun nm q eq h_=>?_
   clear h
   rename Okb _ _=>h
   subst eq
   obtain ⟨h1,h2⟩:=and_Ok h
   obtain ⟨h3,h4⟩:=and_Ok h2
   obtain ⟨h5,h6⟩:=and_Ok h4
   have:=gd_Ok h1
   simp only [Bool.and_eq_true] at this
   obtain ⟨⟨⟨⟨⟨⟨⟨t1,t2⟩,t3⟩,t4⟩,t5⟩,t6⟩,t7⟩,t8⟩:=this
   cases of_decide_eq_true t8
   have op : ∀ {sc : Scope} {a : Option E} {b : List Expr},Okb (Lok C) (chkC (chkE K cdv n sc) a b)→OptL (TrEn C cdv n sc) a b:=fun {sc a b} h=>by
    induction a using Option.casesOn with
    | none=>induction b using List.casesOn with
     | nil=>exact .none
     | cons=>exact h.elim
    | some a=>induction b using List.casesOn with
     | nil=>exact h.elim
     | cons b t=>induction t using List.casesOn with
      | nil=>exact .some (ih _ _ _ h)
      | cons=>exact h.elim
   exact ⟨_,_,_,_,_,_,_,rfl,(ih _ _ _ h3),(ih _ _ _ h5),(op h6),(of_decide_eq_true t1),(of_decide_eq_true t2),(List.isEmpty_iff.mp t3),(nameAt_ok t4),(Nat.eq_of_beq_eq_true t5),(capsOk_ok t6),t7⟩
theorem chkE_ok (D : CkOk C K) (cdv : Value) (n : Nat) (sc : Scope) (e : E) (pe : Expr) (h : Okb (Lok C) (chkE K cdv n sc e pe)) : TrE C cdv sc e pe:=⟨n,chkE_n D cdv n sc e pe h⟩
end
section
variable {C : Cx} {K : Frag}
theorem chkT_ok (D : CkOk C K) (cdv : Value) (n : Nat) (sc : Scope) (t : T) (pt : Expr) (h : Okb (Lok C) (chkT K cdv n sc t pt)) : TrT C cdv sc t pt:=by
 have ih:=chkE_ok D cdv n
 induction t
 case loc x=>
  refine ex2_2 (onName_inv h) fun nm p eq1 h_=>?_
  clear h
  rename Okb _ _=>h
  subst eq1
  exact .loc (nameAt_ok (gd_Ok h))
 case cel x=>
  refine ex2_2 (onName_inv h) fun nm p eq1 h_=>?_
  clear h
  rename Okb _ _=>h
  subst eq1
  have:=gd_Ok h
  rw [Bool.and_eq_true] at this
  exact .cel (nameAt_ok this.1) (of_decide_eq_true this.2)
 case attr o m=>
  refine ex3_2 (onAttr_inv h) fun po nm ap eq1 h_=>?_
  clear h
  rename Okb _ _=>h
  subst eq1
  obtain ⟨h1,h2⟩:=and_Ok h
  rw [of_decide_eq_true (gd_Ok h1),← D.an]
  exact .attr (ih _ _ _ h2)
 case sub o i=>
  refine ex3_2 (onSub_inv h) fun po pi p eq1 h_=>?_
  clear h
  rename Okb _ _=>h
  subst eq1
  obtain ⟨h1,h2⟩:=and_Ok h
  obtain ⟨h3,h4⟩:=and_Ok h2
  exact .sub (ih _ _ _ h3) (ih _ _ _ h4) (gd_Ok h1)
 case oth=>exact h.elim
theorem TrT.pos {cdv : Value} {sc : Scope} {t : T} {nm : Str} {p p' : Pos} (h : TrT C cdv sc t (.Name nm p)) : TrT C cdv sc t (.Name nm p'):=by
 cases h with
 | loc a=>exact .loc a
 | cel a b=>exact .cel a b
theorem chkS_ok (D : CkOk C K) (cdv : Value) (sc : Scope) : ∀ (n : Nat) (s : S) (ps : Stmt),Okb (Lok C) (chkS K cdv sc n s ps)→TrS C cdv sc s ps
 | 0,s,ps,h=>h.elim
 | n + 1,s,ps,h=>by
  have ie:=chkE_ok D cdv n sc
  have it:=chkT_ok D cdv n sc
  have is:=chkS_ok D cdv sc n
  induction s using Mp.S.casesOn
  case oth=>exact .oth
  case ex e=>
   refine ex2_2 (onExpr_inv h) fun pe p eq1 h_=>?_
   clear h
   rename Okb _ _=>h
   subst eq1
   obtain ⟨h1,h2⟩:=and_Ok h
   exact .ex (ie _ _ h2) (gd_Ok h1)
  case asg t e=>
   refine ex3_2 (onAssign_inv h) fun pts pe p eq1 h_=>?_
   clear h
   refine ex1_2 (on1_inv h_) fun pt eq2 h=>?_
   clear h_
   subst eq1 eq2
   obtain ⟨h1,h2⟩:=and_Ok h
   obtain ⟨h3,h4⟩:=and_Ok h2
   refine .asg (ie _ _ h3) (it _ _ h4) ?_
   have:=gd_Ok h1
   rw [Bool.or_eq_true] at this
   rcases this with q | q
   ·exact .inl q
   ·right
    induction t <;> first | exact ⟨_,rfl⟩ | cases q
  case asgT ts e=>
   refine ex3_2 (onAssign_inv h) fun pp pe p eq1 h_=>?_
   clear h
   refine ex1_2 (on1_inv h_) fun pt eq2 h=>?_
   clear h_
   refine ex3_2 (onTuple_inv h) fun pts kk p1 eq3 h_=>?_
   clear h
   rename Okb _ _=>h
   subst eq1 eq2 eq3
   by_cases hc : (ts.any (fun t=>!isLoc t) || Nat.blt 3 ts.length) = true
   ·rw [if_pos hc] at h
    obtain ⟨h1,h2⟩:=and_Ok h
    obtain ⟨h3,h4⟩:=and_Ok h2
    refine .asgT (chkL_all (fun a b h=>it a b h) h3) (ie _ _ h4) (gd_Ok h1) ?_
    rw [Bool.or_eq_true] at hc
    rcases hc with q | q
    ·exact .inl q
    ·exact .inr (Nat.le_of_ble_eq_true q)
   ·rw [if_neg hc] at h
    obtain ⟨h1,h2⟩:=and_Ok h
    refine ex2_2 (on2_inv h1) fun t1 t2 eq1 h1_=>?_
    clear h1
    refine ex1_2 (onLoc_inv h1_) fun a eq2 h1=>?_
    clear h1_
    refine ex1_2 (onLoc_inv h1) fun b eq3 h1_=>?_
    clear h1
    refine ex2_2 (on2_inv h1_) fun q1 q2 eq4 h1=>?_
    clear h1_
    refine ex2_2 (onName_inv h1) fun na pa eq5 h1_=>?_
    clear h1
    refine ex2_2 (onName_inv h1_) fun nb pb eq6 h1=>?_
    clear h1_
    refine ex3_2 (onTuple_inv h1) fun vs kv pv eq7 h1_=>?_
    clear h1
    refine ex2_2 (on2_inv h1_) fun v1 v2 eq8 h1=>?_
    clear h1_
    subst eq1 eq2 eq3 eq4 eq5 eq6 eq7 eq8
    have:=gd_Ok h1
    simp only [Bool.and_eq_true] at this
    obtain ⟨⟨⟨⟨⟨⟨t1,t2⟩,t3⟩,t4⟩,t5⟩,t6⟩,t7⟩:=this
    exact .asgT2 (ie _ _ h2) (nameAt_ok t1) (nameAt_ok t2) (by simpa using t3) (Nat.eq_of_beq_eq_true t4) (by rw [Bool.and_eq_true]; exact t5) (by rw [Bool.not_eq_true'] at t6; exact t6) (by rw [Bool.not_eq_true'] at t7; exact t7)
  case augL x o e=>
   refine ex4_2 (onAug_inv h) fun pt po pe p eq1 h_=>?_
   clear h
   refine ex2_2 (onName_inv h_) fun nm q eq2 h=>?_
   clear h_
   subst eq1 eq2
   obtain ⟨h1,h2⟩:=and_Ok h
   have:=gd_Ok h1
   rw [Bool.and_eq_true] at this
   rw [isOp_eq this.2]
   exact .augL (nameAt_ok this.1) (ie _ _ h2)
  case augA b m o e=>
   refine ex4_2 (onAug_inv h) fun pt po pe p eq1 h_=>?_
   clear h
   refine ex3_2 (onAttr_inv h_) fun pb nm q eq2 h=>?_
   clear h_
   subst eq1 eq2
   obtain ⟨h1,h2⟩:=and_Ok h
   obtain ⟨h3,h4⟩:=and_Ok h2
   have:=gd_Ok h1
   rw [Bool.and_eq_true] at this
   rw [isOp_eq this.2,of_decide_eq_true this.1,← D.an]
   exact .augA (ie _ _ h3) (ie _ _ h4)
  case ite c a b=>
   refine ex4_2 (onIfS_inv h) fun pc pa pb p eq1 h_=>?_
   clear h
   rename Okb _ _=>h
   subst eq1
   obtain ⟨h1,h2⟩:=and_Ok h
   obtain ⟨h3,h4⟩:=and_Ok h2
   exact .ite (ie _ _ h1) (chkL_all (fun a b h=>is a b h) h3) (chkL_all (fun a b h=>is a b h) h4)
  case wh c b=>
   refine ex4_2 (onWhile_inv h) fun pc pb z p eq1 h_=>?_
   clear h
   obtain ⟨eq2,h⟩:=onNil_inv h_
   clear h_
   subst eq1 eq2
   obtain ⟨h1,h2⟩:=and_Ok h
   exact .wh (ie _ _ h1) (chkL_all (fun a b h=>is a b h) h2)
  case fo ts i b=>
   refine ex5_2 (onFor_inv h) fun pt pit pb z p eq1 h_=>?_
   clear h
   obtain ⟨eq2,h⟩:=onNil_inv h_
   clear h_
   subst eq1 eq2
   obtain ⟨h1,h2⟩:=and_Ok h
   obtain ⟨h3,h4⟩:=and_Ok h2
   obtain ⟨h5,h6⟩:=and_Ok h4
   have hb:=chkL_all (fun a b h=>is a b h) h5
   induction ts using List.casesOn with
   | nil=>exact h6.elim
   | cons t r=>
    refine ex1_2 (onLoc_inv h6) fun x eq1 h6_=>?_
    clear h6
    rename Okb _ _=>h6
    subst eq1
    induction r using List.casesOn with
    | nil=>
     refine ex2_2 (onName_inv h6) fun nm q eq1 h6_=>?_
     clear h6
     rename Okb _ _=>h6
     subst eq1
     exact .fo1 (nameAt_ok (gd_Ok h6)) (ie _ _ h3) (gd_Ok h1) hb
    | cons u r'=>
     obtain ⟨eq1,h6_⟩:=onNil_inv h6
     clear h6
     refine ex1_2 (onLoc_inv h6_) fun y eq2 h6=>?_
     clear h6_
     refine ex3_2 (onTuple_inv h6) fun pts kk q eq3 h6_=>?_
     clear h6
     rename Okb _ _=>h6
     subst eq1 eq2 eq3
     exact .fo2 (chkL_all (fun a b h=>it a b h) h6) (ie _ _ h3) (gd_Ok h1) hb
  case ret e=>
   refine ex2_2 (onReturn_inv h) fun o p eq1 h_=>?_
   clear h
   refine ex1_2 (onSome_inv h_) fun pe eq2 h=>?_
   clear h_
   subst eq1 eq2
   exact .ret (ie _ _ h)
  case raise e=>
   refine ex3_2 (onRaise_inv h) fun o z p eq1 h_=>?_
   clear h
   refine ex1_2 (onSome_inv h_) fun pe eq2 h=>?_
   clear h_
   obtain ⟨eq3,h_⟩:=onNone_inv h
   clear h
   rename Okb _ _=>h
   subst eq1 eq2 eq3
   exact .raise (ie _ _ h)
  case tryx e c x hh=>
   refine ex2_2 (onAt_inv h) fun x' m eq1 h_=>?_
   clear h
   refine ex5_2 (onTry_inv h_) fun b hs z1 z2 p eq2 h=>?_
   clear h_
   obtain ⟨eq3,h_⟩:=onNil_inv h
   clear h
   obtain ⟨eq4,h⟩:=onNil_inv h_
   clear h_
   refine ex2_2 (onRet1_inv h) fun pe p1 eq5 h_=>?_
   clear h
   refine ex5_2 (onHd1_inv h_) fun cnm cp nm hb p2 eq6 h=>?_
   clear h_
   refine ex2_2 (onRet1_inv h) fun ra p3 eq7 h_=>?_
   clear h
   refine ex4_2 (onNA_inv h_) fun nm' p4 an' p5 eq8 h=>?_
   clear h_
   subst eq1 eq2 eq3 eq4 eq5 eq6 eq7 eq8
   obtain ⟨h1,h2⟩:=and_Ok h
   obtain ⟨h3,h4⟩:=and_Ok h2
   have:=gd_Ok h1
   simp only [Bool.and_eq_true] at this
   obtain ⟨⟨⟨⟨t1,t2⟩,t3⟩,t4⟩,t5⟩:=this
   rw [of_decide_eq_true t5,← D.an]
   exact .tryx (ie _ _ h3) (Nat.eq_of_beq_eq_true t1) (ie _ _ h4) (nameAt_ok t2) (nameAt_ok t3) (plainNm_ok t4).1
  case brk=>
   refine ex1_2 (onBreak_inv h) fun p eq1 h_=>?_
   clear h
   rename Okb _ _=>h
   subst eq1
   exact .brk
  case pass=>
   refine ex1_2 (onPass_inv h) fun p eq1 h_=>?_
   clear h
   rename Okb _ _=>h
   subst eq1
   exact .pass
  case defn t k c=>
   refine ex10_2 (onFn_inv h) fun nm0 a body dl rr tp lsc ts bind p eq1 h_=>?_
   clear h
   obtain ⟨eq2,h⟩:=onNil_inv h_
   clear h_
   obtain ⟨eq3,h_⟩:=onNone_inv h
   clear h
   obtain ⟨eq4,h⟩:=onNil_inv h_
   clear h_
   subst eq1 eq2 eq3 eq4
   obtain ⟨h1,h2⟩:=and_Ok h
   obtain ⟨h3,h4⟩:=and_Ok h2
   have:=gd_Ok h1
   simp only [Bool.and_eq_true] at this
   obtain ⟨⟨⟨⟨t1,t2⟩,t3⟩,t4⟩,t5⟩:=this
   have ea:=plainArgs_eq t5
   clear h1 t5
   generalize a.args = aa at ea t2
   subst ea
   refine ex0_4 (h4 _ (.head _)) fun q1 q2 q3 q4=>?_
   obtain ⟨⟨cd,P⟩,e⟩:=Option.isSome_iff_exists.mp t4
   refine ex0_3 (D.tab _ _ _ e) fun u1 u2 u3=>?_
   refine .defn (p1:=noPos) t1 q1 q2 q3 (fun x hx=>?_) (capsOk_ok t3) q4 u1 u2 u3 (it _ _ h3)
   rw [List.all_eq_true] at t2
   exact Option.isNone_iff_eq_none.mp (t2 x hx)
end
section
theorem sub_lookup {a : Addr} {o : Obj} : ∀ {K : Frag},(subK K).lookup a = some o→K.lookup a = some o∧a ∉ tabL
 | [],h=>by injection h
 | (b,x) :: K,h=>by
  unfold subK at h
  rw [List.filter_cons] at h
  split at h
  ·rename_i hb
   rw [List.lookup_cons] at h ⊢
   split at h
   ·rename_i e
    have:=eq_of_beq e
    subst this
    cases h
    exact ⟨rfl,by simpa using hb⟩
   ·rename_i e
    exact sub_lookup (K:=K) h
  ·rename_i hb
   obtain ⟨h1,h2⟩:=sub_lookup (K:=K) h
   refine ⟨?_,h2⟩
   rw [List.lookup_cons]
   have : (a == b) = false:=by
    rw [beq_eq_false_iff_ne]
    rintro rfl
    apply hb
    simpa using h2
   rw [this]; exact h1
noncomputable def mkC (K : Frag) (prog : Program) (w : World) (base : Heap) (mg mb : Str→Option Value) (fzo : Obj) : Cx where
 K:=K
 prog:=prog
 w:=w
 base:=base
 tabs:=tabL
 fa:=faT
 ca:=caT
 an:=anT
 par:=parK K
 bod:=bodK K
 sco:=scoK K
 cod:=codT
 mg:=mg
 mb:=mb
 fzo:=fzo
noncomputable def AnP : Prop:=∀ m ∈ List.range 60,∀ m' ∈ List.range 60,anT m = anT m'→m = m'
noncomputable def anDec : Decidable AnP:=by unfold AnP; infer_instance
theorem an_ok : AnP:=@of_decide_eq_true _ anDec (by decide +kernel)
theorem dfl_ok : ∀ k ∈ List.range 111,isC k = true→(fnT k).dfl = []:=by decide +kernel
theorem optB_inv {α : Type} {o : Option α} {f : α→Bool} (h : optB o f = true) : ∃ a,o = some a∧f a = true:=by
 induction o with
 | none=>injection h
 | some a=>exact ⟨a,rfl,h⟩
theorem asCls_inv {d : Data} {c : PySem.ClassData} (h : asCls d = some c) : d = .cls c:=by
 induction d using Data.casesOn <;> first | injection h; done | (injection h with h; rw [h])
theorem asDict_inv {d : Data} {es : Array PySem.DictEntry} (h : asDict d = some es) : ∃ n,d = .dict es n:=by
 induction d using Data.casesOn <;> first | injection h; done | (injection h with h; rw [h]; exact ⟨_,rfl⟩)
theorem isStrK_inv {v : Value} (h : isStrK v = true) : ∃ n t,v = .str n t:=by
 induction v using Value.casesOn <;> first | injection h; done | exact ⟨_,_,rfl⟩
theorem ln1 {α : Type} {l : List α} {n : Nat} (h : l.length = n + 1) : ∃ a t,l = a :: t∧t.length = n:=by
 obtain ⟨a,t,e⟩:=List.exists_cons_of_length_eq_add_one h
 exact ⟨a,t,e,Nat.succ.inj ((congrArg List.length e).symm.trans h)⟩
theorem six {α : Type} {l : List α} (h : l.length = 6) : ∃ k0 k1 k2 k3 k4 k5,l = [k0,k1,k2,k3,k4,k5]:=
 ex2_2 (ln1 h) fun k0 _ e0 h=>ex2_2 (ln1 h) fun k1 _ e1 h=>ex2_2 (ln1 h) fun k2 _ e2 h=>ex2_2 (ln1 h) fun k3 _ e3 h=>ex2_2 (ln1 h) fun k4 _ e4 h=>ex2_2 (ln1 h) fun k5 _ e5 h=>
 ⟨k0,k1,k2,k3,k4,k5,by rw [e0,e1,e2,e3,e4,e5,List.eq_nil_of_length_eq_zero h]⟩
end
section
variable {K : Frag} {prog : Program} {w : World} {base : Heap} {mg mb : Str→Option Value} {fzo : Obj}
theorem mem5 {c : Nat} (h : Nat.blt c 6 = true) (h1 : Nat.beq c 1 = false) : c ∈ c5:=by
 have : c < 6:=Nat.le_of_ble_eq_true h
 match c,this with
 | 0,_=>decide
 | 1,_=>injection h1
 | 2,_=>decide
 | 3,_=>decide
 | 4,_=>decide
 | 5,_=>decide
theorem mem6 {c : Nat} (h : Nat.blt c 6 = true) : c ∈ c6:=by
 have : c < 6:=Nat.le_of_ble_eq_true h
 match c,this with
 | 0,_=>decide
 | 1,_=>decide
 | 2,_=>decide
 | 3,_=>decide
 | 4,_=>decide
 | 5,_=>decide
theorem isPr_mem {k : Nat} {t : V} {b : Bool} (h : isPr k t = some b) : t ∈ tyL:=by
 unfold isPr at h
 split at h <;> try (first | decide | injection h)
 rename_i c
 split at h
 ·rename_i hc
  have : c < 6:=Nat.le_of_ble_eq_true hc
  match c,this with
  | 0,_=>decide
  | 1,_=>decide
  | 2,_=>decide
  | 3,_=>decide
  | 4,_=>decide
  | 5,_=>decide
 ·injection h
theorem isOf_mem {k : Nat} {t : V} {b : Bool} (h : isOf k t = some b) : t ∈ tyL:=by
 unfold isOf at h
 split at h <;> try (first | decide | injection h)
 rename_i c
 split at h
 ·rename_i hc
  have : c < 6:=Nat.le_of_ble_eq_true hc
  match c,this with
  | 0,_=>decide
  | 1,_=>decide
  | 2,_=>decide
  | 3,_=>decide
  | 4,_=>decide
  | 5,_=>decide
 ·injection h
theorem isB_lt {k : Nat} (h : isB k = true) : k < 111:=by
 unfold isB at h
 induction e : bTab[k]? using Option.casesOn with
 | none=>rw [e] at h; injection h
 | some b=>
  have:=(List.getElem?_eq_some_iff.mp e).1
  exact Nat.lt_of_lt_of_le this (by decide)
theorem isC_lt {k : Nat} (h : isC k = true) : 106 < k∧k < 111:=by
 unfold isC at h
 rw [Bool.and_eq_true] at h
 exact ⟨Nat.le_of_ble_eq_true h.1,Nat.le_of_ble_eq_true h.2⟩
theorem lookN_mem {m k : Nat} : ∀ {l : List (Nat × Nat)},lookN m l = some k→(m,k) ∈ l
 | [],h=>by injection h
 | p :: r,h=>by
  unfold lookN at h
  split at h
  ·rename_i e
   have:=Nat.eq_of_beq_eq_true e
   cases h
   rw [← this]; exact .head _
  ·exact .tail _ (lookN_mem h)
theorem gp_good (h : GP K = true) (X : K.In base) (ht : ∀ P,P ∈ tabL→base.get? P = none) : Good (mkC K prog w base mg mb fzo):=by
 unfold GP at h
 simp only [Bool.and_eq_true] at h
 obtain ⟨⟨⟨⟨⟨⟨⟨⟨⟨⟨⟨g1,g2⟩,g3⟩,g4⟩,g5⟩,g6⟩,g7⟩,g8⟩,g9⟩,g10⟩,g11⟩,g12⟩:=h
 simp only [gp1,Bool.and_eq_true,List.all_eq_true] at g1
 simp only [gp2,Bool.and_eq_true,List.all_eq_true] at g2
 simp only [gp3,Bool.and_eq_true,List.all_eq_true] at g3
 simp only [gp4,Bool.and_eq_true,List.all_eq_true] at g4
 simp only [gp6,Bool.and_eq_true,List.all_eq_true] at g6
 simp only [gp7,Bool.and_eq_true,List.all_eq_true] at g7
 simp only [gp8,Bool.and_eq_true,List.all_eq_true] at g8
 have tyE : ∀ {t : V},tyV (mkC K prog w base mg mb fzo) t = tyVT t:=fun {t}=>by induction t <;> rfl
 refine ⟨fun P hP=>ht P hP,fun a o e=>X a o e,fun k t b hk e=>?_,fun c t b hc h1 e=>?_,fun c hc h1=>?_,fun m m' hm hm' e=>?_,fun c hc h1=>?_,fun c m ok=>?_,fun c m k hc e=>?_,⟨beq_iff_eq.mp g8.1,beq_iff_eq.mp g8.2⟩⟩
 ·have hk' : k ∈ [0,1,2,3]:=by
   match k,hk with
   | 0,_=>decide
   | 1,_=>decide
   | 2,_=>decide
   | 3,_=>decide
  have:=g1 k hk' t (isPr_mem e)
  rw [e] at this
  rw [tyE]
  exact beq_iff_eq.mp this
 ·have:=g2 c (mem5 hc h1) t (isOf_mem e)
  rw [e] at this
  rw [tyE]
  exact beq_iff_eq.mp this
 ·obtain ⟨⟨⟨q1,q2⟩,q3⟩,q4⟩:=g3 c (mem5 hc h1)
  exact in0_4 q1 q2 (beq_iff_eq.mp q3) (beq_iff_eq.mp q4)
 ·exact an_ok m (List.mem_range.mpr hm) m' (List.mem_range.mpr hm') e
 ·obtain ⟨q1,q2⟩:=g4 c (mem5 hc h1)
  exact ⟨beq_iff_eq.mp q1,q2⟩
 ·refine ex0_3 (okA_and ok) fun o1 o2 o3=>?_
  have:=g6 c (mem6 o1) m (List.mem_range.mpr o2)
  rw [Bool.or_eq_true] at this
  rcases this with q | q
  ·rw [ok] at q; injection q
  ·exact beq_iff_eq.mp q
 ·obtain ⟨q1,q2⟩:=g7 c (mem6 hc) (m,k) (lookN_mem e)
  exact ⟨beq_iff_eq.mp q1,beq_iff_eq.mp q2⟩
theorem fn_all (hf : fnAll K = true) {k : Nat} (hk : isB k = true ∨ isC k = true) : fnHd (fnT k) (parK K k) (scoK K k) = true∧(isB k = true→fnIn K k = true∧Nat.blt k 107 = true):=by
 unfold fnAll at hf
 rw [List.all_eq_true] at hf
 have hlt : k < 111:=hk.elim isB_lt fun h=>(isC_lt h).2
 have:=hf k (List.mem_range.mpr hlt)
 have hor : (isB k || isC k) = true:=by rw [Bool.or_eq_true]; exact hk
 rw [hor,Bool.not_true,Bool.false_or,Bool.and_eq_true] at this
 refine ⟨this.1,fun hb=>?_⟩
 have h2:=this.2
 rw [hb,Bool.not_true,Bool.false_or,Bool.and_eq_true] at h2
 exact h2
theorem exc_good (h : GP K = true) (he : excIn K = true) (hf : fnAll K = true) (X : K.In base) : GoodE (mkC K prog w base mg mb fzo):=by
 unfold GP at h
 simp only [Bool.and_eq_true] at h
 obtain ⟨⟨⟨⟨⟨⟨⟨⟨⟨⟨⟨g1,g2⟩,g3⟩,g4⟩,g5⟩,g6⟩,g7⟩,g8⟩,g9⟩,g10⟩,g11⟩,g12⟩:=h
 simp only [gp11,Bool.and_eq_true,List.all_eq_true] at g11
 simp only [gp12,Bool.and_eq_true,List.all_eq_true] at g12
 obtain ⟨⟨q1,q2⟩,q3⟩:=g12
 obtain ⟨⟨cl,dd,dt,sl⟩,hk,he⟩:=optB_inv he
 refine ex1_2 (optB_inv he) fun cd hdt he=>?_
 dsimp only at hdt
 cases asCls_inv hdt
 simp only [Bool.and_eq_true] at he
 obtain ⟨⟨⟨⟨⟨e1,e2⟩,e3⟩,e4⟩,e5⟩,e6⟩:=he
 refine ex1_2 (optB_inv e6) fun o ho e6=>?_
 refine ex1_2 (optB_inv e6) fun es hd e6=>?_
 obtain ⟨ep,hd⟩:=asDict_inv hd
 rw [Bool.and_eq_true,List.all_eq_true] at e6
 refine ex6_1 (six (Nat.eq_of_beq_eq_true e5.1)) fun k0 k1 k2 k3 k4 k5 hsl=>?_
 have e5':=beq_iff_eq.mp e5.2
 rw [hsl] at e5'
 have hs : sl = #[k0,k1,k2,k3,some (.builtin "Exception.__new__"),k5]:=by
  rw [← Option.some.inj e5',← Array.toList_inj,hsl]
 have hc : cd = { cd with mro:=.ref (caT 1) :: bmE,hasDel:=false }:=by
  rw [← beq_iff_eq.mp e2,← show cd.hasDel = false by simpa using e4]
 have hcd : (⟨cl,dd,.cls cd,sl⟩ : Obj) = excClassObj cd.name cd.qualname (caT 1) cd.ns cd.bases bmE cd.hasDict cd.slotNames cd.subclasses cd.abstract cd.collection dd k0 k1 k2 k3 k5 "Exception.__new__":=by
  rw [hs,beq_iff_eq.mp e1,hc]
 refine ⟨beq_iff_eq.mp g11.1.2,beq_iff_eq.mp q1,beq_iff_eq.mp q2,beq_iff_eq.mp q3,⟨cd,?_,beq_iff_eq.mp e2,e3⟩,⟨cd.name,cd.qualname,cd.ns,cd.bases,cd.hasDict,cd.slotNames,cd.subclasses,cd.abstract,cd.collection,dd,k0,k1,k2,k3,k5,fun n=>nsFind es n,?_,⟨o,es,ep,X _ _ ho,hd,fun e hm=>?_,fun _=>rfl⟩,beq_iff_eq.mp e6.2⟩,?_⟩
 ·refine (?_ : clsIn K (caT 1) = _)
  unfold clsIn
  rw [hk]
 ·refine (?_ : base.get? (caT 1) = _)
  rw [X _ _ hk,hcd]; rfl
 ·have:=e6.1 e (by simpa using hm)
  exact isStrK_inv this
 ·have h5:=(fn_all hf (k:=4) (.inl (by decide))).2 (by decide)
  have h5:=h5.1
  unfold fnIn at h5
  split at h5
  ·rename_i o' ho'
   rw [Bool.and_eq_true] at h5
   exact in1_2 o' (X _ _ ho') (beq_iff_eq.mp h5.1)
  ·injection h5
theorem fdK_of {k : Nat} {o : Obj} {fd : FuncData} (h : K.lookup (faT k) = some o) (hd : o.data = .func fd) : fdK K k = some fd:=by
 obtain ⟨a,b,c,d⟩:=o
 dsimp only at hd
 subst hd
 unfold fdK
 rw [h]
theorem slotIn_ok {sc : Scope} : ∀ {ps : List (Bool × Nat)} {nms : List Str},slotIn sc ps nms = true→All2 (fun (p : Bool × Nat) nm=>if p.1 = true then (cellNames sc)[p.2]? = some nm∧sc.names.lookup nm = some .cell else (localNames sc)[p.2]? = some nm∧sc.names.lookup nm = some .local) ps nms
 | [],[],_=>.nil
 | [],_ :: _,h=>by injection h
 | _ :: _,[],h=>by injection h
 | p :: ps,nm :: nms,h=>by
  unfold slotIn at h
  rw [Bool.and_eq_true] at h
  refine .cons ?_ (slotIn_ok h.2)
  have h1:=h.1
  split at h1
  ·rename_i hp
   rw [Bool.and_eq_true] at h1
   rw [if_pos hp]
   exact ⟨nameAt_ok h1.1,of_decide_eq_true h1.2⟩
  ·rename_i hp
   rw [Bool.and_eq_true] at h1
   rw [if_neg hp]
   exact ⟨nameAt_ok h1.1,of_decide_eq_true h1.2⟩
theorem fnS_good (hf : fnAll K = true) {k : Nat} (hk : isB k = true ∨ isC k = true) : FnS (mkC K prog w base mg mb fzo) k (fnT k):=by
 have h:=(fn_all hf hk).1
 unfold fnHd at h
 simp only [Bool.and_eq_true] at h
 obtain ⟨⟨⟨⟨⟨⟨⟨⟨⟨⟨⟨h1,h2⟩,h3⟩,h4⟩,h5⟩,h6⟩,h7⟩,h8⟩,h9⟩,h10⟩,h11⟩,h12⟩:=h
 exact ⟨List.isEmpty_iff.mp h1,List.isEmpty_iff.mp h2,Option.isNone_iff_eq_none.mp h3,Option.isNone_iff_eq_none.mp h4,of_decide_eq_true h5,slotIn_ok h6,Nat.eq_of_beq_eq_true h7,Nat.eq_of_beq_eq_true h8,of_decide_eq_true h9,by rw [Bool.not_eq_true'] at h10; exact h10,by rw [Bool.not_eq_true'] at h11; exact h11,of_decide_eq_true h12⟩
end
section
variable {K : Frag} {prog : Program} {w : World} {base : Heap} {mg mb : Str→Option Value} {fzo : Obj}
theorem addsL : ∀ (ps : List Str) (ds : List Value) (acc : List (Str × Value)),ps.Nodup→(∀ x,x ∈ ps→acc.lookup x = none) →
  (forIn (ps.zip ds) acc fun x r=>if (r.lookup x.1).isNone = true then (pure (ForInStep.yield (r ++ [(x.1,x.2)])) : Sem (ForInStep (List (Str × Value)))) else pure (ForInStep.yield r)) = pure (acc ++ ps.zip ds)
 | [],ds,acc,_,_=>by simp
 | p :: ps,[],acc,_,_=>by simp
 | p :: ps,d :: ds,acc,nd,h=>by
  obtain ⟨n1,n2⟩:=List.nodup_cons.mp nd
  rw [List.zip_cons_cons,List.forIn_cons]
  have h0:=h p (.head _)
  rw [if_pos (by rw [h0]; rfl),pure_bind]
  dsimp only
  rw [addsL ps ds (acc ++ [(p,d)]) n2 fun x hx=>?_]
  ·simp
  ·rw [lookup_app_none (h x (.tail _ hx)),List.lookup_cons]
   have : (x == p) = false:=by rw [beq_eq_false_iff_ne]; rintro rfl; exact n1 hx
   rw [this]; rfl
theorem miss_dfl {ps : List Str} {v : Value} {ds : List Value} (hl : ps.length = ds.length + 1) : missS ps [v] ds = false:=by
 induction ps using List.casesOn with
 | nil=>injection hl
 | cons p ps=>
  have hl' : ps.length = ds.length:=Nat.succ.inj hl
  unfold missS
  rw [hl,Nat.sub_eq_zero_of_le (Nat.le_succ _),List.drop_zero,Nat.add_sub_cancel_left]
  simp
theorem fill_dfl {ps : List Str} {v : Value} {ds : List Value} (nd : ps.Nodup) (hl : ps.length = ds.length + 1) : fillS ps [v] ds = pure (ps.zip (v :: ds)):=by
 induction ps using List.casesOn with
 | nil=>injection hl
 | cons p ps=>
  obtain ⟨n1,n2⟩:=List.nodup_cons.mp nd
  unfold fillS
  rw [hl,Nat.sub_eq_zero_of_le (Nat.le_succ _),List.drop_zero,Nat.add_sub_cancel_left]
  rw [List.zip_cons_cons,List.zip_nil_right,List.zip_cons_cons]
  refine addsL ps ds [(p,v)] n2 fun x hx=>?_
  rw [List.lookup_cons,show (x == p) = false from by rw [beq_eq_false_iff_ne]; rintro rfl; exact n1 hx]
  rfl
theorem binds_dfl {s : Shared} {fd : FuncData} {v : Value} {ds : List Value} {T : Addr} {o : Obj} {arr : Array Value} {ep : Nat} (h1 : fd.params.posonlyargs = []) (h2 : fd.params.kwonlyargs = []) (h3 : fd.params.vararg = none) (h4 : fd.params.kwarg = none) (hd : fd.defaults = .ref T)
  (ho : s.heap.get? T = some o) (hod : o.data = .seq arr ep) (harr : arr.toList = ds) (nd : (fd.params.args.map (·.arg)).Nodup) (hl : (fd.params.args.map (·.arg)).length = ds.length + 1) : BindsTo s fd ⟨[v],[]⟩ ((fd.params.args.map (·.arg)).zip (v :: ds)):=by
 intro M A E Q hq
 have key:=zip_lookup _ (v :: ds) nd
 have e2:=lookup_zip _ (v :: ds) nd (by rw [hl]; rfl) _ key
 refine bind_run (dv:=some arr) h1 h2 h3 h4 (fun Q' q=>by rw [hd]; exact wpAny_seqItems ho hod q) (by rw [hl]; exact Nat.succ_le_succ (Nat.zero_le _)) ?_ ?_ (by rw [e2]; exact hq)
 ·rw [Option.getD_some,harr]
  exact miss_dfl hl
 ·rw [Option.getD_some,harr]
  exact fill_dfl nd hl
theorem code_at {cd : Addr} (X : K.In base) (h : codeIn K cd = true) : CodeAt base cd:=by
 unfold codeIn at h
 split at h
 ·rename_i o ho
  split at h
  ·rename_i vs hd
   obtain ⟨x,hx⟩:=Option.isSome_iff_exists.mp h
   exact in3_3 o vs x (X _ _ ho) hd hx
  ·injection h
 ·injection h
theorem chkL_vals (D : CkOk (mkC K prog w base mg mb fzo) K) : ∀ {vs : List V} {cvs : List Value} {l : List Lam},chkL (fun v cv=>gd (chkV v cv)) vs cvs = some l→∀ φ N,All2 (VR (mkC K prog w base mg mb fzo) φ N) vs cvs
 | [],[],_,_,_,_=>.nil
 | [],_ :: _,_,h,_,_=>by injection h
 | _ :: _,[],_,h,_,_=>by injection h
 | v :: vs,c :: cvs,l,h,φ,N=>by
  (refine ex2_3 (and_ok h) fun a b h1 h2 z1q=>?_; subst z1q)
  exact .cons (chkV_ok D (gd_ok h1) φ N) (chkL_vals D h2 φ N)
theorem fnB_good (D : CkOk (mkC K prog w base mg mb fzo) K) (hf : fnAll K = true) (X : K.In base) {k : Nat} (hk : isB k = true) : FnB (mkC K prog w base mg mb fzo) k (fnT k):=by
 obtain ⟨h1,h107⟩:=(fn_all hf (.inl hk)).2 hk
 have S:=fnS_good (prog:=prog) (w:=w) (base:=base) (mg:=mg) (mb:=mb) (fzo:=fzo) hf (.inl hk)
 unfold fnIn at h1
 split at h1
 ·rename_i o ho
  rw [Bool.and_eq_true] at h1
  obtain ⟨hc,h1⟩:=h1
  split at h1
  ·rename_i fd hd
   simp only [Bool.and_eq_true] at h1
   obtain ⟨⟨⟨⟨⟨⟨g1,g2⟩,g3⟩,g4⟩,g5⟩,g6⟩,g7⟩:=h1
   split at g6
   ·rename_i cd hcd
    have ef:=fdK_of ho hd
    have ep : parK K k = fd.params:=by unfold parK; rw [if_pos h107,ef]
    have eb : bodK K k = fd.body:=by unfold bodK; rw [if_pos h107,ef]
    have es : scoK K k = fd.scope:=by unfold scoK; rw [if_pos h107,ef]
    have fo : ∀ φ N,FdOk (mkC K prog w base mg mb fzo) φ N k [] fd:=fun φ N=>
     ⟨ep.symm,eb.symm,es.symm,Nat.eq_of_beq_eq_true g1,Nat.eq_of_beq_eq_true g2,beq_iff_eq.mp g3,by
      rw [Bool.or_eq_true] at g4
      exact g4.elim (fun q=>.inl (beq_iff_eq.mp q)) fun q=>.inr (beq_iff_eq.mp q),fun i x e=>by
      have : freeNames (scoK K k) = []:=by rw [es]; exact List.isEmpty_iff.mp g5
      have e' : (freeNames (scoK K k))[i]? = some x:=e
      rw [this] at e'; injection e'⟩
    refine in3_7 o fd cd (X _ _ ho) (beq_iff_eq.mp hc) hd fo hcd (code_at X g6) (fun φ N as vals s hb va hl=>?_)
    have q1 : fd.params.posonlyargs = []:=by rw [← ep]; exact S.pos
    have q2 : fd.params.kwonlyargs = []:=by rw [← ep]; exact S.kwo
    have q3 : fd.params.vararg = none:=by rw [← ep]; exact S.va
    have q4 : fd.params.kwarg = none:=by rw [← ep]; exact S.kwa
    have q5 : (fd.params.args.map (·.arg)).Nodup:=by rw [← ep]; exact S.nod
    rw [show (mkC K prog w base mg mb fzo).par k = fd.params from ep] at hl ⊢
    unfold dflIn at g7
    split at g7
    ·rename_i e0
     have e1 : fillD (fnT k) as = as:=by unfold fillD; rw [e0]
     rw [e1] at hl ⊢
     exact in1_2 vals va (binds_exact q1 q2 q3 q4 (beq_iff_eq.mp g7) q5 (by rw [← va.length]; exact hl))
    ·rename_i ds hne
     split at g7
     ·rename_i T hT
      split at g7
      ·rename_i oT hoT
       rw [Bool.and_eq_true] at g7
       obtain ⟨hc2,g7⟩:=g7
       split at g7
       ·rename_i vs ep2 hvs
        rw [Bool.and_eq_true] at g7
        obtain ⟨l,hl2⟩:=Option.isSome_iff_exists.mp g7.1
        have hlen:=Nat.eq_of_beq_eq_true g7.2
        have hd2:=chkL_vals D hl2 φ N
        obtain ⟨d0,dr,hds⟩ : ∃ d0 dr,(fnT k).dfl = d0 :: dr:=by
         induction q : (fnT k).dfl using List.casesOn with
         | nil=>exact absurd q hne
         | cons a b=>exact in2_1 a b rfl
        rw [hds] at hlen hd2
        induction as using List.casesOn with
        | nil=>
         have : fillD (fnT k) [] = []:=by unfold fillD; rw [hds]
         rw [this] at hl
         rw [hlen] at hl
         simp at hl
        | cons a r=>
         induction r using List.casesOn with
         | cons b r=>
          have : fillD (fnT k) (a :: b :: r) = []:=by unfold fillD; rw [hds]
          rw [this] at hl
          rw [hlen] at hl
          simp at hl
         | nil=>
          have e1 : fillD (fnT k) [a] = a :: d0 :: dr:=by unfold fillD; rw [hds]
          rw [e1] at hl ⊢
          cases va with
          | @cons _ cv _ _ va1 va2=>
          cases va2
          refine in1_2 (cv :: vs.toList) (.cons va1 hd2) ?_
          exact binds_dfl q1 q2 q3 q4 hT (hb _ _ (X _ _ hoT)) hvs rfl q5 (by rw [hlen,hd2.length])
       ·injection g7
      ·injection g7
     ·injection g7
   ·injection g6
  ·injection h1
 ·injection h1
theorem lam_find {l : List Lam} {q : Lam} (nd : (l.map (·.1)).Nodup) (hq : q ∈ l) : (l.find? fun p=>Nat.beq p.1 q.1).getD lam0 = q:=by
 induction l with
 | nil=>cases hq
 | cons p r ih=>
  rw [List.map_cons] at nd
  obtain ⟨n1,n2⟩:=List.nodup_cons.mp nd
  rw [List.find?_cons]
  rcases List.mem_cons.mp hq with e | hq
  ·subst e
   rw [Nat.beq_refl]; rfl
  ·have : Nat.beq p.1 q.1 = false:=by
    induction e : Nat.beq p.1 q.1 with
    | false=>rfl
    | true=>
     have:=Nat.eq_of_beq_eq_true e
     exact absurd (List.mem_map.mpr ⟨q,hq,this.symm⟩) n1
   rw [this]
   exact ih n2 hq
theorem lok_good (hk : lamKeys K = true) {q : Lam} (hq : q ∈ lamAll K) : Lok (mkC K prog w base mg mb fzo) q:=by
 unfold lamKeys at hk
 rw [Bool.and_eq_true,List.all_eq_true] at hk
 have hc:=isC_lt (hk.2 q hq)
 have hn : ¬ Nat.blt q.1 107 = true:=fun e=>by
  have:=Nat.le_of_ble_eq_true e
  lia
 have e : lamAt K q.1 = q:=lam_find (of_decide_eq_true hk.1) hq
 have ec : codT q.1 = .none:=by
  obtain ⟨h1,h2⟩:=hc
  have h3 : q.1 = 107 ∨ q.1 = 108 ∨ q.1 = 109 ∨ q.1 = 110:=by lia
  rcases h3 with h3 | h3 | h3 | h3 <;> (rw [h3]; rfl)
 exact in0_4 (by show parK K q.1 = _; unfold parK; rw [if_neg hn,e]) (by show bodK K q.1 = _; unfold bodK; rw [if_neg hn,e]) (by show scoK K q.1 = _; unfold scoK; rw [if_neg hn,e]) ec
theorem lookN_mem2 {a b : Nat} : ∀ {l : List (Nat × Nat)},l.lookup a = some b→(a,b) ∈ l
 | (x,y) :: r,h=>by
  rw [List.lookup_cons] at h
  split at h
  ·rename_i e
   cases h
   rw [eq_of_beq e]; exact .head _
  ·exact .tail _ (lookN_mem2 h)
theorem fd_some (hf : fnAll K = true) {k : Nat} (hk : isB k = true) : ∃ fd,fdK K k = some fd:=by
 have h1:=((fn_all hf (.inl hk)).2 hk).1
 unfold fnIn at h1
 split at h1
 ·rename_i o ho
  rw [Bool.and_eq_true] at h1
  obtain ⟨_,h1⟩:=h1
  split at h1
  ·rename_i fd hd
   exact ⟨fd,fdK_of ho hd⟩
  ·injection h1
 ·injection h1
theorem ck_good (X : K.In base) (hg : base.Ns mainGlobals mg) (hb : base.Ns builtinsNs mb) : CkOk (mkC K prog w base mg mb fzo) K:=by
 refine ⟨rfl,rfl,rfl,fun nm v h=>?_,fun cdv cd P h=>?_⟩
 ·unfold glK at h
  split at h
  ·rename_i v' e
   cases h
   exact .inl (ns_some X hg e)
  ·rename_i e
   split at h
   ·rename_i v' e'
    cases h
    exact .inr ⟨ns_none X hg e,ns_some X hb e'⟩
   ·injection h
  ·injection h
 ·unfold tabOf at h
  split at h
  ·rename_i cd'
   split at h
   ·rename_i P' e
    split at h
    ·rename_i hc
     cases h
     refine in0_3 rfl (codeHd_of_K X hc) ?_
     refine (?_ : P ∈ tabL)
     have:=lookN_mem2 e
     simp only [tabT,List.mem_cons,Prod.mk.injEq,List.not_mem_nil,or_false] at this
     rcases this with ⟨_,rfl⟩ | ⟨_,rfl⟩ | ⟨_,rfl⟩ <;> decide
    ·injection h
   ·injection h
  ·injection h
theorem chkB_ok2 {C : Cx} (D : CkOk C K) {cdv : Value} {sc : Scope} {b : List S ⊕ E} {pb : FuncBody} {l : List Lam} : chkB K cdv sc b pb = some l→(∀ q,q ∈ l→Lok C q)→match b,pb with
  | .inl b,.stmts pb=>All2 (TrS C cdv sc) b pb
  | .inr e,.expr pe=>TrE C cdv sc e pe
  | _,_=>False:=by
 intro h hl
 replace h : Okb (Lok C) (chkB K cdv sc b pb):=by rw [h]; exact hl
 induction b <;> cases pb <;> try (exact h.elim)
 ·exact chkL_all (fun a b h=>chkS_ok D cdv sc 60 a b h) h
 ·exact chkE_ok D cdv 60 sc _ _ h
theorem gd_good (hK : chkAll K = true) (X : K.In base) (hg : base.Ns mainGlobals mg) (hb : base.Ns builtinsNs mb) (hl : base.NoLimit) (ht : ∀ P,P ∈ tabL→base.get? P = none) (hbm : ∀ P,P ∈ tabL→base.BuiltinsAt mg P) :
  Gd (mkC K prog w base mg mb fzo):=by
 unfold chkAll at hK
 simp only [Bool.and_eq_true] at hK
 obtain ⟨⟨⟨⟨k1,k2⟩,k3⟩,k4⟩,k5⟩:=hK
 have D:=ck_good (prog:=prog) (w:=w) (fzo:=fzo) X hg hb
 have G:=gp_good (prog:=prog) (w:=w) (mg:=mg) (mb:=mb) (fzo:=fzo) k1 X ht
 have GE:=exc_good (prog:=prog) (w:=w) (mg:=mg) (mb:=mb) (fzo:=fzo) k1 k5 k2 X
 have k1':=k1
 unfold GP at k1'
 simp only [Bool.and_eq_true] at k1'
 obtain ⟨⟨⟨⟨⟨⟨⟨⟨⟨⟨⟨g1,g2⟩,g3⟩,g4⟩,g5⟩,g6⟩,g7⟩,g8⟩,g9⟩,g10⟩,g11⟩,g12⟩:=k1'
 simp only [gp5,Bool.and_eq_true,List.all_eq_true] at g5
 simp only [gp9,Bool.and_eq_true,List.all_eq_true] at g9
 simp only [gp10,Bool.and_eq_true,List.all_eq_true] at g10
 simp only [gp11,Bool.and_eq_true,List.all_eq_true] at g11
 have G2 : Good2 (mkC K prog w base mg mb fzo):=by
  refine ⟨hl,fun c hc h1 hi=>?_,fun c hc h1=>?_,fun c hc=>g10 c (mem6 hc),exc_make GE,fun k hk=>fnB_good D k2 X hk,fun k hk=>fnS_good k2 hk,fun k hk=>dfl_ok k (List.mem_range.mpr (isC_lt hk).2) hk⟩
  ·obtain ⟨⟨q1,q2⟩,q3⟩:=g9 c (mem5 hc h1)
   exact in0_3 q1 (beq_iff_eq.mp q2) (beq_iff_eq.mp q3)
  ·obtain ⟨q1,q2⟩:=g5 c (mem5 hc h1)
   exact ⟨beq_iff_eq.mp q1,beq_iff_eq.mp q2⟩
 refine ⟨G,G2,⟨⟨hg,hb⟩,hbm⟩,⟨beq_iff_eq.mp g11.1.1,beq_iff_eq.mp g11.1.2,beq_iff_eq.mp g11.2⟩,exc_get G GE,exc_set G GE,exc_set0 G GE,bi_ok,fun k hk=>?_⟩
 unfold bodAll at k4
 rw [List.all_eq_true] at k4
 have hlt : k < 111:=hk.elim isB_lt fun h=>(isC_lt h).2
 have:=k4 k (List.mem_range.mpr hlt)
 have hor : (isB k || isC k) = true:=by rw [Bool.or_eq_true]; exact hk
 rw [hor,Bool.not_true,Bool.false_or] at this
 split at this
 ·rename_i l e
  refine chkB_ok2 D e fun q hq=>?_
  rw [List.all_eq_true] at this
  have:=this q hq
  rw [Bool.or_eq_true,Bool.or_eq_true] at this
  refine lok_good k3 ?_
  have e' : ∀ j,Nat.beq k j = true→j < 107→isB j = true→(chkFd K j).getD [] = l:=fun j hj hj2 hj3=>by
   have:=Nat.eq_of_beq_eq_true hj
   subst this
   have hb2 : Nat.blt k 107 = true:=Nat.ble_eq_true_of_le hj2
   unfold chkFd
   unfold bodK scoK at e
   rw [if_pos hb2,if_pos hb2] at e
   obtain ⟨fd,z⟩:=fd_some k2 hj3
   rw [z] at e ⊢
   dsimp only at e ⊢
   rw [e]; rfl
  unfold lamAll
  rcases this with (h | h) | h
  ·rw [e' 98 h (by decide) (by decide)]; exact List.mem_append_left _ hq
  ·rw [e' 103 h (by decide) (by decide)]; exact List.mem_append_right _ (List.mem_append_left _ hq)
  ·rw [e' 105 h (by decide) (by decide)]; exact List.mem_append_right _ (List.mem_append_right _ hq)
 ·injection this
end
end Mp
end
section
set_option autoImplicit false
namespace Mp
abbrev PQ:=V→List O→Prop
abbrev PE:=Nat→List O→Prop
abbrev PF:=Fl × Lo→List O→Prop
inductive W {α : Type} (m : M α) (H : List O) (Q : α→List O→Prop) (E : PE) : Prop where
 | ok {a : α} {H' : List O} (e : m H = .ok a H') (h : Q a H')
 | err {x : Nat} {H' : List O} (e : m H = .err x H') (h : E x H')
section
variable {α β : Type} {m : M α} {f : α→M β} {H H' : List O} {Q : α→List O→Prop} {R : β→List O→Prop} {E E' : PE}
theorem W.mono {Q' : α→List O→Prop} (h : W m H Q E) (hq : ∀ a H',Q a H'→Q' a H') (he : ∀ e H',E e H'→E' e H') : W m H Q' E':=by
 induction h with
 | ok e h=>exact .ok e (hq _ _ h)
 | err e h=>exact .err e (he _ _ h)
theorem W.bind (h : W m H (fun a H1=>W (f a) H1 R E) E) : W (m >>= f) H R E:=by
 have e : (m >>= f) H = M.bind m f H:=rfl
 induction h with
 | ok q h=>
  induction h with
  | ok q2 h=>exact .ok (by rw [e]; unfold M.bind; rw [q]; exact q2) h
  | err q2 h=>exact .err (by rw [e]; unfold M.bind; rw [q]; exact q2) h
 | err q h=>exact .err (by rw [e]; unfold M.bind; rw [q]) h
theorem W.pure {a : α} (h : Q a H) : W (Pure.pure a) H Q E:=.ok rfl h
theorem W.get {n : Nat} {o : O} {Q : O→List O→Prop} (e : H[n]? = some o) (h : Q o H) : W (getO n) H Q E:=by
 refine .ok (a:=o) (H':=H) ?_ h
 unfold getO; rw [e]
theorem W.out (h : W m H Q E) : (∃ a H',m H = .ok a H'∧Q a H') ∨ (∃ x H',m H = .err x H'∧E x H'):=by
 induction h with
 | ok e h=>exact .inl ⟨_,_,e,h⟩
 | err e h=>exact .inr ⟨_,_,e,h⟩
end
inductive Br (t : Bool) (A B : Prop) : Prop where
 | yes (e : t = true) (h : A)
 | no (e : t = false) (h : B)
inductive Sq (K : Lo→List O→Prop) (Q : PF) : PF where
 | nxt {ρ : Lo} {H : List O} (h : K ρ H) : Sq K Q (.nxt,ρ) H
 | brk {ρ : Lo} {H : List O} (h : Q (.brk,ρ) H) : Sq K Q (.brk,ρ) H
 | ret {v : V} {ρ : Lo} {H : List O} (h : Q (.ret v,ρ) H) : Sq K Q (.ret v,ρ) H
inductive Lq (K : Lo→List O→Prop) (Q : PF) : PF where
 | nxt {ρ : Lo} {H : List O} (h : K ρ H) : Lq K Q (.nxt,ρ) H
 | brk {ρ : Lo} {H : List O} (h : Q (.nxt,ρ) H) : Lq K Q (.brk,ρ) H
 | ret {v : V} {ρ : Lo} {H : List O} (h : Q (.ret v,ρ) H) : Lq K Q (.ret v,ρ) H
inductive Rq (Q : PQ) : PF where
 | nxt {ρ : Lo} {H : List O} (h : Q .none H) : Rq Q (.nxt,ρ) H
 | ret {v : V} {ρ : Lo} {H : List O} (h : Q v H) : Rq Q (.ret v,ρ) H
inductive Tq (A : Nat→Prop) (B : V→Prop) (C : Prop) : Tgt→Prop where
 | own {f : Nat} (h : A f) : Tq A B C (.own f)
 | val {v : V} (h : B v) : Tq A B C (.val v)
 | bi (h : C) : Tq A B C .bi
variable {k : Nat} {cs : List Nat} {ρ : Lo} {H : List O} {E : PE}
structure Te (k : Nat) (cs : List Nat) (ρ : Lo) (e : Mp.E) (H : List O) (Q : PQ) (E : PE) : Prop where
 run : ∀ n,k ≤ n→W ((ev n).e cs ρ e) H Q E
structure Tes (k : Nat) (cs : List Nat) (ρ : Lo) (e : List Mp.E) (H : List O) (Q : List V→List O→Prop) (E : PE) : Prop where
 run : ∀ n,k ≤ n→W ((ev n).es cs ρ e) H Q E
structure To (k : Nat) (cs : List Nat) (ρ : Lo) (e : Option Mp.E) (H : List O) (Q : Option V→List O→Prop) (E : PE) : Prop where
 run : ∀ n,k ≤ n→W ((ev n).o cs ρ e) H Q E
structure Tt (k : Nat) (cs : List Nat) (ρ : Lo) (e : Mp.E) (H : List O) (Q : Bool→List O→Prop) (E : PE) : Prop where
 run : ∀ n,k ≤ n→W ((ev n).t cs ρ e) H Q E
structure Tea (k : Nat) (cs : List Nat) (ρ : Lo) (e : List Mp.E) (H : List O) (Q : PQ) (E : PE) : Prop where
 run : ∀ n,k ≤ n→W ((ev n).ea cs ρ e) H Q E
structure Teo (k : Nat) (cs : List Nat) (ρ : Lo) (e : List Mp.E) (H : List O) (Q : PQ) (E : PE) : Prop where
 run : ∀ n,k ≤ n→W ((ev n).eo cs ρ e) H Q E
structure Tta (k : Nat) (cs : List Nat) (ρ : Lo) (e : List Mp.E) (H : List O) (Q : Bool→List O→Prop) (E : PE) : Prop where
 run : ∀ n,k ≤ n→W ((ev n).ta cs ρ e) H Q E
structure Tto (k : Nat) (cs : List Nat) (ρ : Lo) (e : List Mp.E) (H : List O) (Q : Bool→List O→Prop) (E : PE) : Prop where
 run : ∀ n,k ≤ n→W ((ev n).to cs ρ e) H Q E
structure Ts (k : Nat) (cs : List Nat) (ρ : Lo) (s : S) (H : List O) (Q : PF) (E : PE) : Prop where
 run : ∀ n,k ≤ n→W ((ev n).s cs ρ s) H Q E
structure Tss (k : Nat) (cs : List Nat) (ρ : Lo) (s : List S) (H : List O) (Q : PF) (E : PE) : Prop where
 run : ∀ n,k ≤ n→W ((ev n).ss cs ρ s) H Q E
structure Tf (k : Nat) (f : Nat) (cl : List Nat) (as : List V) (H : List O) (Q : PQ) (E : PE) : Prop where
 run : ∀ n,k ≤ n→W ((ev n).fn f cl as) H Q E
structure Tc (k : Nat) (g : V) (as : List V) (H : List O) (Q : PQ) (E : PE) : Prop where
 run : ∀ n,k ≤ n→W (callV iniT excT isB isC (ev n) g as) H Q E
structure Twh (k : Nat) (cs : List Nat) (ρ : Lo) (c : Mp.E) (b : List S) (H : List O) (Q : PF) (E : PE) : Prop where
 run : ∀ n,k ≤ n→W ((ev n).wh cs ρ c b) H Q E
structure Tfo (k : Nat) (cs : List Nat) (ρ : Lo) (ts : List T) (s : Src) (b : List S) (H : List O) (Q : PF) (E : PE) : Prop where
 run : ∀ n,k ≤ n→W ((ev n).fo cs ρ ts s b) H Q E
structure Tco (k : Nat) (cs : List Nat) (ρ : Lo) (elt : Mp.E) (cond : Option Mp.E) (x : Nat) (s : Src) (acc : Nat) (H : List O) (Q : Unit→List O→Prop) (E : PE) : Prop where
 run : ∀ n,k ≤ n→W ((ev n).co cs ρ elt cond x s acc) H Q E
structure Tsrc (k : Nat) (cs : List Nat) (ρ : Lo) (it : Mp.E) (H : List O) (Q : Src→List O→Prop) (E : PE) : Prop where
 run : ∀ n,k ≤ n→W (src (ev n) cs ρ it) H Q E
structure Tas (k : Nat) (cs : List Nat) (ρ : Lo) (v : V) (t : T) (H : List O) (Q : Lo→List O→Prop) (E : PE) : Prop where
 run : ∀ n,k ≤ n→W (asgM methT (ev n) cs ρ v t) H Q E
structure Tal (k : Nat) (cs : List Nat) (ρ : Lo) (ts : List T) (vs : List V) (H : List O) (Q : Lo→List O→Prop) (E : PE) : Prop where
 run : ∀ n,k ≤ n→W (asgAll methT (ev n) cs ρ ts vs) H Q E
theorem up_of {k : Nat} {P : Nat→Prop} (h : ∀ n,k ≤ n→P (n + 1)) : ∀ n,k + 1 ≤ n→P n
 | n + 1,hn=>h n (Nat.le_of_succ_le_succ hn)
theorem Tf.le {k k' f : Nat} {cl : List Nat} {as : List V} {Q : PQ} (h : Tf k f cl as H Q E) (hk : k ≤ k') : Tf k' f cl as H Q E:=⟨fun n hn=>h.run n (Nat.le_trans hk hn)⟩
theorem Tf.mono {f : Nat} {cl : List Nat} {as : List V} {Q Q' : PQ} {E' : PE} (h : Tf k f cl as H Q E) (hq : ∀ a H',Q a H'→Q' a H') (he : ∀ e H',E e H'→E' e H') : Tf k f cl as H Q' E':=⟨fun n hn=>(h.run n hn).mono hq he⟩
theorem Te.cst {v : V} {Q : PQ} (h : Q v H) : Te (k + 1) cs ρ (.cst v) H Q E:=by
 refine ⟨up_of fun n hk=>?_⟩
 refine (?_ : W (Pure.pure v) H Q E)
 exact W.ok rfl h
theorem Te.loc {x : Nat} {v : V} {Q : PQ} (e : ρ[x]? = some (some v)) (h : Q v H) : Te (k + 1) cs ρ (.loc x) H Q E:=by
 refine ⟨up_of fun n hk=>?_⟩
 refine (?_ : W (getL ρ x) H Q E)
 unfold getL; rw [e]; exact W.ok rfl h
theorem Te.cel {x c : Nat} {v : V} {Q : PQ} (e : cs[x]? = some c) (e2 : H[c]? = some (.cell (some v))) (h : Q v H) : Te (k + 1) cs ρ (.cel x) H Q E:=by
 refine ⟨up_of fun n hk=>?_⟩
 refine (?_ : W (getC cs x) H Q E)
 unfold getC; rw [e]; exact W.bind (W.get e2 (W.ok rfl h))
theorem Te.glo {v : V} {Q : PQ} (h : Q v H) : Te (k + 1) cs ρ (.glo v) H Q E:=by
 refine ⟨up_of fun n hk=>?_⟩
 refine (?_ : W (Pure.pure v) H Q E)
 exact W.ok rfl h
theorem Te.not {a : Mp.E} {Q : PQ} (h : Te k cs ρ a H (fun x H1=>W (truth x) H1 (fun b H2=>Q (.bool (!b)) H2) E) E) : Te (k + 1) cs ρ (.not a) H Q E:=by
 refine ⟨up_of fun n hk=>?_⟩
 refine (?_ : W ((ev n).e cs ρ a >>= fun x=>truth x >>= fun b=>Pure.pure (.bool (!b))) H Q E)
 exact W.bind ((h.run n hk).mono (fun x H1 h1=>W.bind (h1.mono (fun _ _ z=>by first | exact z | exact W.ok rfl z) fun _ _ z=>z)) fun _ _ z=>z)
theorem Te.and {as : List Mp.E} {Q : PQ} (h : Tea k cs ρ as H Q E) : Te (k + 1) cs ρ (.and as) H Q E:=by
 refine ⟨up_of fun n hk=>?_⟩
 refine (?_ : W ((ev n).ea cs ρ as) H Q E)
 exact h.run n hk
theorem Te.or {as : List Mp.E} {Q : PQ} (h : Teo k cs ρ as H Q E) : Te (k + 1) cs ρ (.or as) H Q E:=by
 refine ⟨up_of fun n hk=>?_⟩
 refine (?_ : W ((ev n).eo cs ρ as) H Q E)
 exact h.run n hk
theorem Te.ite {c a b : Mp.E} {Q : PQ} (h : Tt k cs ρ c H (fun t H1=>Br t (Te k cs ρ a H1 Q E) (Te k cs ρ b H1 Q E)) E) : Te (k + 1) cs ρ (.ite c a b) H Q E:=by
 refine ⟨up_of fun n hk=>?_⟩
 refine (?_ : W ((ev n).t cs ρ c >>= fun t=>if t then (ev n).e cs ρ a else (ev n).e cs ρ b) H Q E)
 refine W.bind ((h.run n hk).mono (fun t H1 h1=>?_) fun _ _ z=>z)
 induction h1 with
 | yes e h1=>subst e; first | exact h1.run n hk | exact h1 | exact W.pure h1
 | no e h1=>subst e; first | exact h1.run n hk | exact h1 | exact W.pure h1
theorem Te.bin {o : Bop} {a b : Mp.E} {Q : PQ} (h : Te k cs ρ a H (fun x H1=>Te k cs ρ b H1 (fun y H2=>W (binM o x y) H2 Q E) E) E) : Te (k + 1) cs ρ (.bin o a b) H Q E:=by
 refine ⟨up_of fun n hk=>?_⟩
 refine (?_ : W ((ev n).e cs ρ a >>= fun x=>(ev n).e cs ρ b >>= fun y=>binM o x y) H Q E)
 exact W.bind ((h.run n hk).mono (fun x H1 h1=>W.bind ((h1.run n hk).mono (fun _ _ z=>by first | exact z | exact W.ok rfl z) fun _ _ z=>z)) fun _ _ z=>z)
theorem Te.cmp {o : Cop} {a b : Mp.E} {Q : PQ} (h : Te k cs ρ a H (fun x H1=>Te k cs ρ b H1 (fun y H2=>W (cmpM o x y) H2 Q E) E) E) : Te (k + 1) cs ρ (.cmp o a b) H Q E:=by
 refine ⟨up_of fun n hk=>?_⟩
 refine (?_ : W ((ev n).e cs ρ a >>= fun x=>(ev n).e cs ρ b >>= fun y=>cmpM o x y) H Q E)
 exact W.bind ((h.run n hk).mono (fun x H1 h1=>W.bind ((h1.run n hk).mono (fun _ _ z=>by first | exact z | exact W.ok rfl z) fun _ _ z=>z)) fun _ _ z=>z)
theorem Te.neg {a : Mp.E} {Q : PQ} (h : Te k cs ρ a H (fun x H1=>∃ i,x = .int i∧Q (.int (-i)) H1) E) : Te (k + 1) cs ρ (.neg a) H Q E:=by
 refine ⟨up_of fun n hk=>?_⟩
 refine (?_ : W ((ev n).e cs ρ a >>= fun x=>match x with | .int i=>Pure.pure (.int (-i)) | _=>stuck) H Q E)
 refine W.bind ((h.run n hk).mono (fun x H1 h1=>?_) fun _ _ z=>z)
 (refine ex1_2 h1 fun i z12q z13q=>?_; clear h1; subst z12q; revert z13q; intro h1)
 exact W.ok rfl h1
theorem Te.call {f : Mp.E} {as : List Mp.E} {Q : PQ} (h : Te k cs ρ f H (fun g H1=>Tes k cs ρ as H1 (fun vs H2=>Tc k g vs H2 Q E) E) E) : Te (k + 1) cs ρ (.call f as) H Q E:=by
 refine ⟨up_of fun n hk=>?_⟩
 refine (?_ : W ((ev n).e cs ρ f >>= fun g=>(ev n).es cs ρ as >>= fun vs=>callV iniT excT isB isC (ev n) g vs) H Q E)
 exact W.bind ((h.run n hk).mono (fun x H1 h1=>W.bind ((h1.run n hk).mono (fun _ _ z=>z.run n hk) fun _ _ z=>z)) fun _ _ z=>z)
theorem Te.meth {o : Mp.E} {m : Nat} {as : List Mp.E} {Q : PQ} (h : Te k cs ρ o H (fun x H1=>W (target methT isB x m) H1 (fun t H2=>Tes k cs ρ as H2 (fun vs H3=>Tq (fun f=>Tf k f [] (x :: vs) H3 Q E) (fun v=>Tc k v vs H3 Q E) (W (bltMeth x m vs) H3 Q E) t) E) E) E) : Te (k + 1) cs ρ (.meth o m as) H Q E:=by
 refine ⟨up_of fun n hk=>?_⟩
 refine (?_ : W ((ev n).e cs ρ o >>= fun x=>target methT isB x m >>= fun t=>(ev n).es cs ρ as >>= fun vs=>match t with | .own f=>(ev n).fn f [] (x :: vs) | .val v=>callV iniT excT isB isC (ev n) v vs | .bi=>bltMeth x m vs) H Q E)
 refine W.bind ((h.run n hk).mono (fun x H1 h1=>W.bind (h1.mono (fun t H2 h2=>W.bind ((h2.run n hk).mono (fun vs H3 h3=>?_) fun _ _ z=>z)) fun _ _ z=>z)) fun _ _ z=>z)
 induction h3 with
 | own h3=>exact h3.run n hk
 | val h3=>exact h3.run n hk
 | bi h3=>exact h3
theorem Te.attr {o : Mp.E} {m : Nat} {Q : PQ} (h : Te k cs ρ o H (fun x H1=>W (getA methT x m) H1 Q E) E) : Te (k + 1) cs ρ (.attr o m) H Q E:=by
 refine ⟨up_of fun n hk=>?_⟩
 refine (?_ : W ((ev n).e cs ρ o >>= fun x=>getA methT x m) H Q E)
 exact W.bind ((h.run n hk).mono (fun _ _ z=>by first | exact z | exact W.ok rfl z) fun _ _ z=>z)
theorem Te.lst {as : List Mp.E} {Q : PQ} (h : Tes k cs ρ as H (fun vs H1=>Q (.ref H1.length) (H1 ++ [.list vs])) E) : Te (k + 1) cs ρ (.lst as) H Q E:=by
 refine ⟨up_of fun n hk=>?_⟩
 refine (?_ : W ((ev n).es cs ρ as >>= fun vs=>new (.list vs) >>= fun r=>Pure.pure (.ref r)) H Q E)
 exact W.bind ((h.run n hk).mono (fun _ _ z=>by first | exact z | exact W.ok rfl z) fun _ _ z=>z)
theorem Te.tup {as : List Mp.E} {Q : PQ} (h : Tes k cs ρ as H (fun vs H1=>Q (.ref H1.length) (H1 ++ [.tup vs])) E) : Te (k + 1) cs ρ (.tup as) H Q E:=by
 refine ⟨up_of fun n hk=>?_⟩
 refine (?_ : W ((ev n).es cs ρ as >>= fun vs=>new (.tup vs) >>= fun r=>Pure.pure (.ref r)) H Q E)
 exact W.bind ((h.run n hk).mono (fun _ _ z=>by first | exact z | exact W.ok rfl z) fun _ _ z=>z)
theorem Te.dic  {Q : PQ} (h : Q (.ref H.length) (H ++ [.attrs []])) : Te (k + 1) cs ρ .dic H Q E:=by
 refine ⟨up_of fun n hk=>?_⟩
 refine (?_ : W (new (.attrs []) >>= fun r=>Pure.pure (.ref r)) H Q E)
 exact W.ok rfl h
theorem Te.sub {o i : Mp.E} {Q : PQ} (h : Te k cs ρ o H (fun x H1=>Te k cs ρ i H1 (fun y H2=>W (getI x y) H2 Q E) E) E) : Te (k + 1) cs ρ (.sub o i) H Q E:=by
 refine ⟨up_of fun n hk=>?_⟩
 refine (?_ : W ((ev n).e cs ρ o >>= fun x=>(ev n).e cs ρ i >>= fun y=>getI x y) H Q E)
 exact W.bind ((h.run n hk).mono (fun x H1 h1=>W.bind ((h1.run n hk).mono (fun _ _ z=>by first | exact z | exact W.ok rfl z) fun _ _ z=>z)) fun _ _ z=>z)
theorem Te.slc {o : Mp.E} {lo hi : Option Mp.E} {Q : PQ} (h : Te k cs ρ o H (fun x H1=>To k cs ρ lo H1 (fun a H2=>To k cs ρ hi H2 (fun b H3=>W (slice x a b) H3 Q E) E) E) E) : Te (k + 1) cs ρ (.slc o lo hi) H Q E:=by
 refine ⟨up_of fun n hk=>?_⟩
 refine (?_ : W ((ev n).e cs ρ o >>= fun x=>(ev n).o cs ρ lo >>= fun a=>(ev n).o cs ρ hi >>= fun b=>slice x a b) H Q E)
 exact W.bind ((h.run n hk).mono (fun x H1 h1=>W.bind ((h1.run n hk).mono (fun _ _ h2=>W.bind ((h2.run n hk).mono (fun _ _ z=>by first | exact z | exact W.ok rfl z) fun _ _ z=>z)) fun _ _ z=>z)) fun _ _ z=>z)
theorem Te.lam {f : Nat} {c l : List Nat} {Q : PQ} (hc : isC f = true) (e : caps cs c = some l) (h : Q (.ref H.length) (H ++ [.clo f l])) : Te (k + 1) cs ρ (.lam f c) H Q E:=by
 refine ⟨up_of fun n hk=>?_⟩
 refine (?_ : W (if isC f then (opt (caps cs c) >>= fun l=>new (.clo f l) >>= fun r=>Pure.pure (.ref r)) else stuck) H Q E)
 rw [if_pos hc,e]; exact W.ok rfl h
theorem Te.comp {elt : Mp.E} {x nl : Nat} {c l : List Nat} {it : Mp.E} {cond : Option Mp.E} {Q : PQ} (e : caps cs c = some l) (h : Tsrc k cs ρ it H (fun s H1=>Tco k l (List.replicate nl none) elt cond x s H1.length (H1 ++ [.list []]) (fun _ H2=>Q (.ref H1.length) H2) E) E) : Te (k + 1) cs ρ (.comp elt x nl c it cond) H Q E:=by
 refine ⟨up_of fun n hk=>?_⟩
 refine (?_ : W (src (ev n) cs ρ it >>= fun s=>new (.list []) >>= fun acc=>opt (caps cs c) >>= fun l=>(ev n).co l (List.replicate nl none) elt cond x s acc >>= fun _=>Pure.pure (.ref acc)) H Q E)
 refine W.bind ((h.run n hk).mono (fun s H1 h1=>?_) fun _ _ z=>z)
 rw [e]
 exact W.bind (W.ok (m:=new (.list [])) rfl (W.bind (W.ok (m:=opt (some l)) rfl (W.bind ((h1.run n hk).mono (fun _ _ z=>by first | exact z | exact W.ok rfl z) fun _ _ z=>z)))))
theorem Tes.nil  {Q : List V→List O→Prop} (h : Q [] H) : Tes (k + 1) cs ρ [] H Q E:=by
 refine ⟨up_of fun n hk=>?_⟩
 refine (?_ : W (Pure.pure []) H Q E)
 exact W.ok rfl h
theorem Tes.cons {a : Mp.E} {r : List Mp.E} {Q : List V→List O→Prop} (h : Te k cs ρ a H (fun v H1=>Tes k cs ρ r H1 (fun vs H2=>Q (v :: vs) H2) E) E) : Tes (k + 1) cs ρ (a :: r) H Q E:=by
 refine ⟨up_of fun n hk=>?_⟩
 refine (?_ : W ((ev n).e cs ρ a >>= fun v=>(ev n).es cs ρ r >>= fun vs=>Pure.pure (v :: vs)) H Q E)
 exact W.bind ((h.run n hk).mono (fun v H1 h1=>W.bind ((h1.run n hk).mono (fun _ _ z=>by first | exact z | exact W.ok rfl z) fun _ _ z=>z)) fun _ _ z=>z)
theorem To.nil  {Q : Option V→List O→Prop} (h : Q none H) : To (k + 1) cs ρ none H Q E:=by
 refine ⟨up_of fun n hk=>?_⟩
 refine (?_ : W (Pure.pure none) H Q E)
 exact W.ok rfl h
theorem To.one {a : Mp.E} {Q : Option V→List O→Prop} (h : Te k cs ρ a H (fun v H1=>Q (some v) H1) E) : To (k + 1) cs ρ (some a) H Q E:=by
 refine ⟨up_of fun n hk=>?_⟩
 refine (?_ : W ((ev n).e cs ρ a >>= fun v=>Pure.pure (some v)) H Q E)
 exact W.bind ((h.run n hk).mono (fun _ _ z=>by first | exact z | exact W.ok rfl z) fun _ _ z=>z)
theorem Tea.one {a : Mp.E} {Q : PQ} (h : Te k cs ρ a H Q E) : Tea (k + 1) cs ρ [a] H Q E:=by
 refine ⟨up_of fun n hk=>?_⟩
 refine (?_ : W ((ev n).e cs ρ a) H Q E)
 exact h.run n hk
theorem Tea.cons {a b : Mp.E} {r : List Mp.E} {Q : PQ} (h : Te k cs ρ a H (fun v H1=>W (truth v) H1 (fun t H2=>Br t (Tea k cs ρ (b :: r) H2 Q E) (Q v H2)) E) E) : Tea (k + 1) cs ρ (a :: b :: r) H Q E:=by
 refine ⟨up_of fun n hk=>?_⟩
 refine (?_ : W ((ev n).e cs ρ a >>= fun v=>truth v >>= fun t=>if t then (ev n).ea cs ρ (b :: r) else Pure.pure v) H Q E)
 refine W.bind ((h.run n hk).mono (fun v H1 h1=>W.bind (h1.mono (fun t H2 h2=>?_) fun _ _ z=>z)) fun _ _ z=>z)
 induction h2 with
 | yes e h2=>subst e; first | exact h2.run n hk | exact h2 | exact W.pure h2
 | no e h2=>subst e; first | exact h2.run n hk | exact h2 | exact W.pure h2
theorem Teo.one {a : Mp.E} {Q : PQ} (h : Te k cs ρ a H Q E) : Teo (k + 1) cs ρ [a] H Q E:=by
 refine ⟨up_of fun n hk=>?_⟩
 refine (?_ : W ((ev n).e cs ρ a) H Q E)
 exact h.run n hk
theorem Teo.cons {a b : Mp.E} {r : List Mp.E} {Q : PQ} (h : Te k cs ρ a H (fun v H1=>W (truth v) H1 (fun t H2=>Br t (Q v H2) (Teo k cs ρ (b :: r) H2 Q E)) E) E) : Teo (k + 1) cs ρ (a :: b :: r) H Q E:=by
 refine ⟨up_of fun n hk=>?_⟩
 refine (?_ : W ((ev n).e cs ρ a >>= fun v=>truth v >>= fun t=>if t then Pure.pure v else (ev n).eo cs ρ (b :: r)) H Q E)
 refine W.bind ((h.run n hk).mono (fun v H1 h1=>W.bind (h1.mono (fun t H2 h2=>?_) fun _ _ z=>z)) fun _ _ z=>z)
 induction h2 with
 | yes e h2=>subst e; first | exact h2.run n hk | exact h2 | exact W.pure h2
 | no e h2=>subst e; first | exact h2.run n hk | exact h2 | exact W.pure h2
theorem Tt.not {a : Mp.E} {Q : Bool→List O→Prop} (h : Tt k cs ρ a H (fun b H1=>Q (!b) H1) E) : Tt (k + 1) cs ρ (.not a) H Q E:=by
 refine ⟨up_of fun n hk=>?_⟩
 refine (?_ : W ((ev n).t cs ρ a >>= fun b=>Pure.pure (!b)) H Q E)
 exact W.bind ((h.run n hk).mono (fun _ _ z=>by first | exact z | exact W.ok rfl z) fun _ _ z=>z)
theorem Tt.and {as : List Mp.E} {Q : Bool→List O→Prop} (h : Tta k cs ρ as H Q E) : Tt (k + 1) cs ρ (.and as) H Q E:=by
 refine ⟨up_of fun n hk=>?_⟩
 refine (?_ : W ((ev n).ta cs ρ as) H Q E)
 exact h.run n hk
theorem Tt.or {as : List Mp.E} {Q : Bool→List O→Prop} (h : Tto k cs ρ as H Q E) : Tt (k + 1) cs ρ (.or as) H Q E:=by
 refine ⟨up_of fun n hk=>?_⟩
 refine (?_ : W ((ev n).to cs ρ as) H Q E)
 exact h.run n hk
theorem Tt.ite {c a b : Mp.E} {Q : Bool→List O→Prop} (h : Tt k cs ρ c H (fun t H1=>Br t (Tt k cs ρ a H1 Q E) (Tt k cs ρ b H1 Q E)) E) : Tt (k + 1) cs ρ (.ite c a b) H Q E:=by
 refine ⟨up_of fun n hk=>?_⟩
 refine (?_ : W ((ev n).t cs ρ c >>= fun t=>if t then (ev n).t cs ρ a else (ev n).t cs ρ b) H Q E)
 refine W.bind ((h.run n hk).mono (fun t H1 h1=>?_) fun _ _ z=>z)
 induction h1 with
 | yes e h1=>subst e; first | exact h1.run n hk | exact h1 | exact W.pure h1
 | no e h1=>subst e; first | exact h1.run n hk | exact h1 | exact W.pure h1
theorem Tt.loc {x : Nat} {Q : Bool→List O→Prop} (h : Te k cs ρ (.loc x) H (fun v H1=>W (truth v) H1 Q E) E) : Tt (k + 1) cs ρ (.loc x) H Q E:=by
 refine ⟨up_of fun n hk=>?_⟩
 refine (?_ : W ((ev n).e cs ρ (.loc x) >>= truth) H Q E)
 exact W.bind ((h.run n hk).mono (fun _ _ z=>by first | exact z | exact W.ok rfl z) fun _ _ z=>z)
theorem Tt.cmp {o : Cop} {a b : Mp.E} {Q : Bool→List O→Prop} (h : Te k cs ρ (.cmp o a b) H (fun v H1=>W (truth v) H1 Q E) E) : Tt (k + 1) cs ρ (.cmp o a b) H Q E:=by
 refine ⟨up_of fun n hk=>?_⟩
 refine (?_ : W ((ev n).e cs ρ (.cmp o a b) >>= truth) H Q E)
 exact W.bind ((h.run n hk).mono (fun _ _ z=>by first | exact z | exact W.ok rfl z) fun _ _ z=>z)
theorem Tt.call {f : Mp.E} {as : List Mp.E} {Q : Bool→List O→Prop} (h : Te k cs ρ (.call f as) H (fun v H1=>W (truth v) H1 Q E) E) : Tt (k + 1) cs ρ (.call f as) H Q E:=by
 refine ⟨up_of fun n hk=>?_⟩
 refine (?_ : W ((ev n).e cs ρ (.call f as) >>= truth) H Q E)
 exact W.bind ((h.run n hk).mono (fun _ _ z=>by first | exact z | exact W.ok rfl z) fun _ _ z=>z)
theorem Tt.meth {o : Mp.E} {m : Nat} {as : List Mp.E} {Q : Bool→List O→Prop} (h : Te k cs ρ (.meth o m as) H (fun v H1=>W (truth v) H1 Q E) E) : Tt (k + 1) cs ρ (.meth o m as) H Q E:=by
 refine ⟨up_of fun n hk=>?_⟩
 refine (?_ : W ((ev n).e cs ρ (.meth o m as) >>= truth) H Q E)
 exact W.bind ((h.run n hk).mono (fun _ _ z=>by first | exact z | exact W.ok rfl z) fun _ _ z=>z)
theorem Tt.cel {x : Nat} {Q : Bool→List O→Prop} (h : Te k cs ρ (.cel x) H (fun v H1=>W (truth v) H1 Q E) E) : Tt (k + 1) cs ρ (.cel x) H Q E:=by
 refine ⟨up_of fun n hk=>?_⟩
 refine (?_ : W ((ev n).e cs ρ (.cel x) >>= truth) H Q E)
 exact W.bind ((h.run n hk).mono (fun _ _ z=>by first | exact z | exact W.ok rfl z) fun _ _ z=>z)
theorem Tt.cst {v : V} {Q : Bool→List O→Prop} (h : Te k cs ρ (.cst v) H (fun v H1=>W (truth v) H1 Q E) E) : Tt (k + 1) cs ρ (.cst v) H Q E:=by
 refine ⟨up_of fun n hk=>?_⟩
 refine (?_ : W ((ev n).e cs ρ (.cst v) >>= truth) H Q E)
 exact W.bind ((h.run n hk).mono (fun _ _ z=>by first | exact z | exact W.ok rfl z) fun _ _ z=>z)
theorem Tta.nil  {Q : Bool→List O→Prop} (h : Q true H) : Tta (k + 1) cs ρ [] H Q E:=by
 refine ⟨up_of fun n hk=>?_⟩
 refine (?_ : W (Pure.pure true) H Q E)
 exact W.ok rfl h
theorem Tta.cons {a : Mp.E} {r : List Mp.E} {Q : Bool→List O→Prop} (h : Tt k cs ρ a H (fun t H1=>Br t (Tta k cs ρ r H1 Q E) (Q false H1)) E) : Tta (k + 1) cs ρ (a :: r) H Q E:=by
 refine ⟨up_of fun n hk=>?_⟩
 refine (?_ : W ((ev n).t cs ρ a >>= fun t=>if t then (ev n).ta cs ρ r else Pure.pure false) H Q E)
 refine W.bind ((h.run n hk).mono (fun t H1 h1=>?_) fun _ _ z=>z)
 induction h1 with
 | yes e h1=>subst e; first | exact h1.run n hk | exact h1 | exact W.pure h1
 | no e h1=>subst e; first | exact h1.run n hk | exact h1 | exact W.pure h1
theorem Tto.nil  {Q : Bool→List O→Prop} (h : Q false H) : Tto (k + 1) cs ρ [] H Q E:=by
 refine ⟨up_of fun n hk=>?_⟩
 refine (?_ : W (Pure.pure false) H Q E)
 exact W.ok rfl h
theorem Tto.cons {a : Mp.E} {r : List Mp.E} {Q : Bool→List O→Prop} (h : Tt k cs ρ a H (fun t H1=>Br t (Q true H1) (Tto k cs ρ r H1 Q E)) E) : Tto (k + 1) cs ρ (a :: r) H Q E:=by
 refine ⟨up_of fun n hk=>?_⟩
 refine (?_ : W ((ev n).t cs ρ a >>= fun t=>if t then Pure.pure true else (ev n).to cs ρ r) H Q E)
 refine W.bind ((h.run n hk).mono (fun t H1 h1=>?_) fun _ _ z=>z)
 induction h1 with
 | yes e h1=>subst e; first | exact h1.run n hk | exact h1 | exact W.pure h1
 | no e h1=>subst e; first | exact h1.run n hk | exact h1 | exact W.pure h1
theorem Ts.ex {e : Mp.E} {Q : PF} (h : Te k cs ρ e H (fun _ H1=>Q (.nxt,ρ) H1) E) : Ts (k + 1) cs ρ (.ex e) H Q E:=by
 refine ⟨up_of fun n hk=>?_⟩
 refine (?_ : W ((ev n).e cs ρ e >>= fun _=>Pure.pure (.nxt,ρ)) H Q E)
 exact W.bind ((h.run n hk).mono (fun _ _ z=>by first | exact z | exact W.ok rfl z) fun _ _ z=>z)
theorem Ts.asg {t : T} {e : Mp.E} {Q : PF} (h : Te k cs ρ e H (fun v H1=>Tas k cs ρ v t H1 (fun ρ1 H2=>Q (.nxt,ρ1) H2) E) E) : Ts (k + 1) cs ρ (.asg t e) H Q E:=by
 refine ⟨up_of fun n hk=>?_⟩
 refine (?_ : W ((ev n).e cs ρ e >>= fun v=>asgM methT (ev n) cs ρ v t >>= fun ρ1=>Pure.pure (.nxt,ρ1)) H Q E)
 exact W.bind ((h.run n hk).mono (fun v H1 h1=>W.bind ((h1.run n hk).mono (fun _ _ z=>by first | exact z | exact W.ok rfl z) fun _ _ z=>z)) fun _ _ z=>z)
theorem Ts.asgT {ts : List T} {e : Mp.E} {Q : PF} (h : Te k cs ρ e H (fun v H1=>∃ r xs,v = .ref r∧H1[r]? = some (.tup xs)∧Nat.beq xs.length ts.length = true∧Tal k cs ρ ts xs H1 (fun ρ1 H2=>Q (.nxt,ρ1) H2) E) E) : Ts (k + 1) cs ρ (.asgT ts e) H Q E:=by
 refine ⟨up_of fun n hk=>?_⟩
 refine (?_ : W ((ev n).e cs ρ e >>= fun v=>match v with | .ref m=>getO m >>= fun o=>(match o with | .tup xs=>if Nat.beq xs.length ts.length then (asgAll methT (ev n) cs ρ ts xs >>= fun ρ1=>Pure.pure (.nxt,ρ1)) else stuck | _=>stuck) | _=>stuck) H Q E)
 refine W.bind ((h.run n hk).mono (fun v H1 h1=>?_) fun _ _ z=>z)
 (refine ex2_4 h1 fun r xs z49q e1 e2 z50q=>?_; clear h1; subst z49q; revert z50q; intro h1)
 refine W.bind (W.get e1 ?_)
 refine (?_ : W (if Nat.beq xs.length ts.length then (asgAll methT (ev n) cs ρ ts xs >>= fun ρ1=>Pure.pure (.nxt,ρ1)) else stuck) H1 Q E)
 rw [if_pos e2]
 exact W.bind ((h1.run n hk).mono (fun _ _ z=>by first | exact z | exact W.ok rfl z) fun _ _ z=>z)
theorem Ts.augL {x : Nat} {o : Bop} {e : Mp.E} {a : V} {Q : PF} (e0 : ρ[x]? = some (some a)) (h : Te k cs ρ e H (fun b H1=>W (augM o a b) H1 (fun c H2=>Q (.nxt,ρ.set x (some c)) H2) E) E) : Ts (k + 1) cs ρ (.augL x o e) H Q E:=by
 refine ⟨up_of fun n hk=>?_⟩
 refine (?_ : W (getL ρ x >>= fun a=>(ev n).e cs ρ e >>= fun b=>augM o a b >>= fun c=>if x < ρ.length then Pure.pure (.nxt,ρ.set x (some c)) else stuck) H Q E)
 have hx : x < ρ.length:=(List.getElem?_eq_some_iff.mp e0).1
 refine W.bind (W.ok (m:=getL ρ x) (a:=a) (by unfold getL; rw [e0]; rfl) (W.bind ((h.run n hk).mono (fun b H1 h1=>W.bind (h1.mono (fun c H2 h2=>?_) fun _ _ z=>z)) fun _ _ z=>z)))
 rw [if_pos hx]; exact W.ok rfl h2
theorem Ts.augA {b : Mp.E} {m : Nat} {o : Bop} {e : Mp.E} {Q : PF} (h : Te k cs ρ b H (fun x H1=>W (getA methT x m) H1 (fun a H2=>Te k cs ρ e H2 (fun y H3=>W (augM o a y) H3 (fun c H4=>W (setA methT x m c) H4 (fun _ H5=>Q (.nxt,ρ) H5) E) E) E) E) E) : Ts (k + 1) cs ρ (.augA b m o e) H Q E:=by
 refine ⟨up_of fun n hk=>?_⟩
 refine (?_ : W ((ev n).e cs ρ b >>= fun x=>getA methT x m >>= fun a=>(ev n).e cs ρ e >>= fun y=>augM o a y >>= fun c=>setA methT x m c >>= fun _=>Pure.pure (.nxt,ρ)) H Q E)
 exact W.bind ((h.run n hk).mono (fun x H1 h1=>W.bind (h1.mono (fun a H2 h2=>W.bind ((h2.run n hk).mono (fun y H3 h3=>W.bind (h3.mono (fun c H4 h4=>W.bind (h4.mono (fun _ _ z=>by first | exact z | exact W.ok rfl z) fun _ _ z=>z)) fun _ _ z=>z)) fun _ _ z=>z)) fun _ _ z=>z)) fun _ _ z=>z)
theorem Ts.ite {c : Mp.E} {a b : List S} {Q : PF} (h : Tt k cs ρ c H (fun t H1=>Br t (Tss k cs ρ a H1 Q E) (Tss k cs ρ b H1 Q E)) E) : Ts (k + 1) cs ρ (.ite c a b) H Q E:=by
 refine ⟨up_of fun n hk=>?_⟩
 refine (?_ : W ((ev n).t cs ρ c >>= fun t=>if t then (ev n).ss cs ρ a else (ev n).ss cs ρ b) H Q E)
 refine W.bind ((h.run n hk).mono (fun t H1 h1=>?_) fun _ _ z=>z)
 induction h1 with
 | yes e h1=>subst e; first | exact h1.run n hk | exact h1 | exact W.pure h1
 | no e h1=>subst e; first | exact h1.run n hk | exact h1 | exact W.pure h1
theorem Ts.wh {c : Mp.E} {b : List S} {Q : PF} (h : Twh k cs ρ c b H Q E) : Ts (k + 1) cs ρ (.wh c b) H Q E:=by
 refine ⟨up_of fun n hk=>?_⟩
 refine (?_ : W ((ev n).wh cs ρ c b) H Q E)
 exact h.run n hk
theorem Ts.fo {ts : List T} {it : Mp.E} {b : List S} {Q : PF} (h : Tsrc k cs ρ it H (fun s H1=>Tfo k cs ρ ts s b H1 Q E) E) : Ts (k + 1) cs ρ (.fo ts it b) H Q E:=by
 refine ⟨up_of fun n hk=>?_⟩
 refine (?_ : W (src (ev n) cs ρ it >>= fun s=>(ev n).fo cs ρ ts s b) H Q E)
 exact W.bind ((h.run n hk).mono (fun _ _ z=>z.run n hk) fun _ _ z=>z)
theorem Ts.ret {e : Mp.E} {Q : PF} (h : Te k cs ρ e H (fun v H1=>Q (.ret v,ρ) H1) E) : Ts (k + 1) cs ρ (.ret e) H Q E:=by
 refine ⟨up_of fun n hk=>?_⟩
 refine (?_ : W ((ev n).e cs ρ e >>= fun v=>Pure.pure (.ret v,ρ)) H Q E)
 exact W.bind ((h.run n hk).mono (fun _ _ z=>by first | exact z | exact W.ok rfl z) fun _ _ z=>z)
theorem Ts.raise {e : Mp.E} {Q : PF} (h : Te k cs ρ e H (fun v H1=>∃ r d,v = .ref r∧H1[r]? = some (.exc 1 d false)∧E r (H1.set r (.exc 1 d true))) E) : Ts (k + 1) cs ρ (.raise e) H Q E:=by
 refine ⟨up_of fun n hk=>?_⟩
 refine (?_ : W ((ev n).e cs ρ e >>= fun v=>match v with | .ref m=>getO m >>= fun o=>(match o with | .exc c d false=>if Nat.beq c 1 then (fun H=>.err m (H.set m (.exc c d true))) else stuck | _=>stuck) | _=>stuck) H Q E)
 refine W.bind ((h.run n hk).mono (fun v H1 h1=>?_) fun _ _ z=>z)
 (refine ex2_3 h1 fun r d z58q e1 z59q=>?_; clear h1; subst z58q; revert z59q; intro h1)
 exact W.bind (W.get e1 (W.err rfl h1))
theorem Ts.brk  {Q : PF} (h : Q (.brk,ρ) H) : Ts (k + 1) cs ρ .brk H Q E:=by
 refine ⟨up_of fun n hk=>?_⟩
 refine (?_ : W (Pure.pure (.brk,ρ)) H Q E)
 exact W.ok rfl h
theorem Ts.pass  {Q : PF} (h : Q (.nxt,ρ) H) : Ts (k + 1) cs ρ .pass H Q E:=by
 refine ⟨up_of fun n hk=>?_⟩
 refine (?_ : W (Pure.pure (.nxt,ρ)) H Q E)
 exact W.ok rfl h
theorem Ts.defn {t : T} {f : Nat} {c l : List Nat} {Q : PF} (hc : isC f = true) (e : caps cs c = some l) (h : Tas k cs ρ (.ref H.length) t (H ++ [.clo f l]) (fun ρ1 H1=>Q (.nxt,ρ1) H1) E) : Ts (k + 1) cs ρ (.defn t f c) H Q E:=by
 refine ⟨up_of fun n hk=>?_⟩
 refine (?_ : W (if isC f then (opt (caps cs c) >>= fun l=>new (.clo f l) >>= fun r=>asgM methT (ev n) cs ρ (.ref r) t >>= fun ρ1=>Pure.pure (.nxt,ρ1)) else stuck) H Q E)
 rw [if_pos hc,e]
 exact W.bind (W.ok (m:=opt (some l)) rfl (W.bind (W.ok (m:=new (.clo f l)) rfl (W.bind ((h.run n hk).mono (fun _ _ z=>by first | exact z | exact W.ok rfl z) fun _ _ z=>z)))))
theorem Ts.tryx {e : Mp.E} {c x : Nat} {hh : Mp.E} {Q : PF} (h : Te k cs ρ e H (fun v H1=>Q (.ret v,ρ) H1) (fun r H1=>∃ d up,H1[r]? = some (.exc c d up)∧Nat.blt x ρ.length = true∧Te k cs (ρ.set x (some (.ref r))) hh H1 (fun v H2=>Q (.ret v,List.replicate ρ.length none) H2) (fun _ _=>False))) : Ts (k + 1) cs ρ (.tryx e c x hh) H Q E:=by
 refine ⟨up_of fun n hk=>?_⟩
 refine (?_ : W (fun H=>match (ev n).e cs ρ e H with | .stuck=>.stuck | .ok v H1=>.ok (.ret v,ρ) H1 | .err r H1=>match H1[r]? with | some (.exc d _ _)=>if Nat.beq c d && Nat.blt x ρ.length then (match (ev n).e cs (ρ.set x (some (.ref r))) hh H1 with | .ok v H2=>.ok (.ret v,List.replicate ρ.length none) H2 | _=>.stuck) else .stuck | _=>.stuck) H Q E)
 rcases (h.run n hk).out with ⟨v,H1,e1,h1⟩ | ⟨r,H1,e1,d,up,e2,e3,h1⟩
 ·refine W.ok (a:=(.ret v,ρ)) (H':=H1) ?_ h1
  rw [e1]
 ·rcases (h1.run n hk).out with ⟨v,H2,e4,h2⟩ | ⟨_,_,_,h2⟩
  ·refine W.ok (a:=(.ret v,List.replicate ρ.length none)) (H':=H2) ?_ h2
   rw [e1]
   dsimp only
   rw [e2]
   dsimp only
   rw [if_pos (by rw [Nat.beq_refl,e3]; rfl),e4]
  ·exact h2.elim
theorem Tss.nil  {Q : PF} (h : Q (.nxt,ρ) H) : Tss (k + 1) cs ρ [] H Q E:=by
 refine ⟨up_of fun n hk=>?_⟩
 refine (?_ : W (Pure.pure (.nxt,ρ)) H Q E)
 exact W.ok rfl h
theorem Tss.cons {s : S} {r : List S} {Q : PF} (h : Ts k cs ρ s H (Sq (fun ρ1 H1=>Tss k cs ρ1 r H1 Q E) Q) E) : Tss (k + 1) cs ρ (s :: r) H Q E:=by
 refine ⟨up_of fun n hk=>?_⟩
 refine (?_ : W ((ev n).s cs ρ s >>= fun p=>match p with | (f,ρ1)=>match f with | .nxt=>(ev n).ss cs ρ1 r | f=>Pure.pure (f,ρ1)) H Q E)
 refine W.bind ((h.run n hk).mono (fun p H1 h1=>?_) fun _ _ z=>z)
 induction h1 with
 | nxt h1=>exact h1.run n hk
 | brk h1=>exact W.pure h1
 | ret h1=>exact W.pure h1
theorem Twh.step {c : Mp.E} {b : List S} {Q : PF} (h : Tt k cs ρ c H (fun t H1=>Br t (Tss k cs ρ b H1 (Lq (fun ρ1 H2=>Twh k cs ρ1 c b H2 Q E) Q) E) (Q (.nxt,ρ) H1)) E) : Twh (k + 1) cs ρ c b H Q E:=by
 refine ⟨up_of fun n hk=>?_⟩
 refine (?_ : W ((ev n).t cs ρ c >>= fun t=>if t then ((ev n).ss cs ρ b >>= fun p=>match p with | (f,ρ1)=>match f with | .nxt=>(ev n).wh cs ρ1 c b | .brk=>Pure.pure (.nxt,ρ1) | .ret v=>Pure.pure (.ret v,ρ1)) else Pure.pure (.nxt,ρ)) H Q E)
 refine W.bind ((h.run n hk).mono (fun t H1 h1=>?_) fun _ _ z=>z)
 induction h1 with
 | no e h1=>subst e; exact W.pure h1
 | yes e h1=>
  subst e
  refine W.bind ((h1.run n hk).mono (fun p H2 h2=>?_) fun _ _ z=>z)
  induction h2 with
  | nxt h2=>exact h2.run n hk
  | brk h2=>exact W.pure h2
  | ret h2=>exact W.pure h2
theorem Tfo.done {ts : List T} {s : Src} {b : List S} {Q : PF} (e : nextS s H = .ok none H) (h : Q (.nxt,ρ) H) : Tfo (k + 1) cs ρ ts s b H Q E:=by
 refine ⟨up_of fun n hk=>?_⟩
 refine (?_ : W (nextS s >>= fun q=>match q with | none=>Pure.pure (.nxt,ρ) | some (vs,s1)=>asgAll methT (ev n) cs ρ ts vs >>= fun ρ1=>(ev n).ss cs ρ1 b >>= fun p=>match p with | (f,ρ2)=>match f with | .nxt=>(ev n).fo cs ρ2 ts s1 b | .brk=>Pure.pure (.nxt,ρ2) | .ret v=>Pure.pure (.ret v,ρ2)) H Q E)
 exact W.bind (W.ok e (W.ok rfl h))
theorem Tfo.step {ts : List T} {s s1 : Src} {vs : List V} {b : List S} {Q : PF} (e : nextS s H = .ok (some (vs,s1)) H) (h : Tal k cs ρ ts vs H (fun ρ1 H1=>Tss k cs ρ1 b H1 (Lq (fun ρ1 H2=>Tfo k cs ρ1 ts s1 b H2 Q E) Q) E) E) : Tfo (k + 1) cs ρ ts s b H Q E:=by
 refine ⟨up_of fun n hk=>?_⟩
 refine (?_ : W (nextS s >>= fun q=>match q with | none=>Pure.pure (.nxt,ρ) | some (vs,s1)=>asgAll methT (ev n) cs ρ ts vs >>= fun ρ1=>(ev n).ss cs ρ1 b >>= fun p=>match p with | (f,ρ2)=>match f with | .nxt=>(ev n).fo cs ρ2 ts s1 b | .brk=>Pure.pure (.nxt,ρ2) | .ret v=>Pure.pure (.ret v,ρ2)) H Q E)
 refine W.bind (W.ok e (W.bind ((h.run n hk).mono (fun ρ1 H1 h1=>W.bind ((h1.run n hk).mono (fun p H2 h2=>?_) fun _ _ z=>z)) fun _ _ z=>z)))
 induction h2 with
 | nxt h2=>exact h2.run n hk
 | brk h2=>exact W.pure h2
 | ret h2=>exact W.pure h2
theorem co_eq (n : Nat) (cs : List Nat) (ρ : Lo) (elt : Mp.E) (cond : Option Mp.E) (x : Nat) (s : Src) (acc : Nat) : (ev (n + 1)).co cs ρ elt cond x s acc = (nextS s >>= fun q=>match q with | none=>Pure.pure () | some (vs,s1)=>match vs with | [v]=>(match cond with | none=>Pure.pure true | some c=>Mp.noErr ((ev n).t cs (ρ.set x (some v)) c)) >>= fun ok=>if ok then (Mp.noErr ((ev n).e cs (ρ.set x (some v)) elt) >>= fun y=>Mp.getO acc >>= fun o=>match o with | .list xs=>if xs.length < 50000 then (setO acc (.list (xs ++ [y])) >>= fun _=>(ev n).co cs (ρ.set x (some v)) elt cond x s1 acc) else Mp.stuck | _=>Mp.stuck) else (ev n).co cs (ρ.set x (some v)) elt cond x s1 acc | _=>Mp.stuck):=by
 induction cond using Option.casesOn <;> rfl
theorem W.noErr {α : Type} {m : M α} {Q : α→List O→Prop} (h : W m H Q (fun _ _=>False)) : W (Mp.noErr m) H Q E:=by
 rcases h.out with ⟨a,H1,e,h⟩ | ⟨_,_,_,h⟩
 ·exact W.ok (by unfold Mp.noErr; rw [e]) h
 ·exact h.elim
theorem Tco.done {elt : Mp.E} {cond : Option Mp.E} {x : Nat} {s : Src} {acc : Nat} {Q : Unit→List O→Prop} (e : nextS s H = .ok none H) (h : Q () H) : Tco (k + 1) cs ρ elt cond x s acc H Q E:=by
 refine ⟨up_of fun n hk=>?_⟩
 rw [co_eq]
 exact W.bind (W.ok e (W.ok rfl h))
theorem Tco.step {elt : Mp.E} {x : Nat} {s s1 : Src} {v : V} {acc : Nat} {Q : Unit→List O→Prop} (e : nextS s H = .ok (some ([v],s1)) H) (h : Te k cs (ρ.set x (some v)) elt H (fun y H1=>∃ xs,H1[acc]? = some (.list xs)∧xs.length < 50000∧Tco k cs (ρ.set x (some v)) elt none x s1 acc (H1.set acc (.list (xs ++ [y]))) Q E) (fun _ _=>False)) : Tco (k + 1) cs ρ elt none x s acc H Q E:=by
 refine ⟨up_of fun n hk=>?_⟩
 rw [co_eq]
 refine W.bind (W.ok e (W.bind (W.ok (m:=Pure.pure true) rfl ?_)))
 refine W.bind (W.noErr ((h.run n hk).mono (fun y H1 h1=>?_) fun _ _ z=>z))
 (refine ex1_3 h1 fun xs e1 e2 z71q=>?_; clear h1; revert z71q; intro h1)
 refine W.bind (W.get e1 ?_)
 refine (?_ : W (if xs.length < 50000 then (setO acc (.list (xs ++ [y])) >>= fun _=>(ev n).co cs (ρ.set x (some v)) elt none x s1 acc) else Mp.stuck) H1 Q E)
 rw [if_pos e2]
 exact W.bind (W.ok (m:=setO acc (.list (xs ++ [y]))) rfl (h1.run n hk))
theorem Tco.stepC {elt c : Mp.E} {x : Nat} {s s1 : Src} {v : V} {acc : Nat} {Q : Unit→List O→Prop} (e : nextS s H = .ok (some ([v],s1)) H) (h : Tt k cs (ρ.set x (some v)) c H (fun b H0=>Br b (Te k cs (ρ.set x (some v)) elt H0 (fun y H1=>∃ xs,H1[acc]? = some (.list xs)∧xs.length < 50000∧Tco k cs (ρ.set x (some v)) elt (some c) x s1 acc (H1.set acc (.list (xs ++ [y]))) Q E) (fun _ _=>False)) (Tco k cs (ρ.set x (some v)) elt (some c) x s1 acc H0 Q E)) (fun _ _=>False)) : Tco (k + 1) cs ρ elt (some c) x s acc H Q E:=by
 refine ⟨up_of fun n hk=>?_⟩
 rw [co_eq]
 refine W.bind (W.ok e (W.bind (W.noErr ((h.run n hk).mono (fun b H0 h0=>?_) fun _ _ z=>z))))
 induction h0 with
 | no e h0=>subst e; exact h0.run n hk
 | yes e h0=>
 subst e
 refine W.bind (W.noErr ((h0.run n hk).mono (fun y H1 h1=>?_) fun _ _ z=>z))
 (refine ex1_3 h1 fun xs e1 e2 z73q=>?_; clear h1; revert z73q; intro h1)
 refine W.bind (W.get e1 ?_)
 refine (?_ : W (if xs.length < 50000 then (setO acc (.list (xs ++ [y])) >>= fun _=>(ev n).co cs (ρ.set x (some v)) elt (some c) x s1 acc) else Mp.stuck) H1 Q E)
 rw [if_pos e2]
 exact W.bind (W.ok (m:=setO acc (.list (xs ++ [y]))) rfl (h1.run n hk))
theorem W.truth {b : Bool} {Q : Bool→List O→Prop} (h : Q b H) : W (Mp.truth (.bool b)) H Q E:=W.ok rfl h
theorem Br.dec {p : Prop} [Decidable p] {A B : Prop} (ha : p→A) (hb : ¬p→B) : Br (decide p) A B:=by
 by_cases hp : p
 ·exact .yes (decide_eq_true hp) (ha hp)
 ·exact .no (decide_eq_false hp) (hb hp)
theorem Br.ndec {p : Prop} [Decidable p] {A B : Prop} (ha : ¬p→A) (hb : p→B) : Br (!decide p) A B:=by
 by_cases hp : p
 ·exact .no (by rw [decide_eq_true hp]; rfl) (hb hp)
 ·exact .yes (by rw [decide_eq_false hp]; rfl) (ha hp)
theorem Tas.loc {v : V} {x : Nat} {Q : Lo→List O→Prop} (hx : x < ρ.length) (h : Q (ρ.set x (some v)) H) : Tas k cs ρ v (.loc x) H Q E:=by
 refine ⟨fun n hn=>?_⟩
 refine (?_ : W (if x < ρ.length then Pure.pure (ρ.set x (some v)) else Mp.stuck) H Q E)
 rw [if_pos hx]; exact W.ok rfl h
theorem Tas.cel {v : V} {x c : Nat} {w : Option V} {Q : Lo→List O→Prop} (e : cs[x]? = some c) (e2 : H[c]? = some (.cell w)) (h : Q ρ (H.set c (.cell (some v)))) : Tas k cs ρ v (.cel x) H Q E:=by
 refine ⟨fun n hn=>?_⟩
 refine (?_ : W (setC cs x v >>= fun _=>Pure.pure ρ) H Q E)
 unfold setC; rw [e]
 exact W.bind (W.bind (W.get e2 (W.ok rfl (W.ok rfl h))))
theorem Tas.attr {v : V} {o : Mp.E} {m : Nat} {Q : Lo→List O→Prop} (h : Te k cs ρ o H (fun x H1=>W (setA methT x m v) H1 (fun _ H2=>Q ρ H2) E) E) : Tas k cs ρ v (.attr o m) H Q E:=by
 refine ⟨fun n hn=>?_⟩
 refine (?_ : W ((ev n).e cs ρ o >>= fun x=>setA methT x m v >>= fun _=>Pure.pure ρ) H Q E)
 exact W.bind ((h.run n hn).mono (fun x H1 h1=>W.bind (h1.mono (fun _ _ z=>by first | exact z | exact W.ok rfl z) (fun _ _ z=>z))) (fun _ _ z=>z))
theorem Tas.sub {v : V} {o i : Mp.E} {Q : Lo→List O→Prop} (h : Te k cs ρ o H (fun x H1=>Te k cs ρ i H1 (fun y H2=>W (setI x y v) H2 (fun _ H3=>Q ρ H3) E) E) E) : Tas k cs ρ v (.sub o i) H Q E:=by
 refine ⟨fun n hn=>?_⟩
 refine (?_ : W ((ev n).e cs ρ o >>= fun x=>(ev n).e cs ρ i >>= fun y=>setI x y v >>= fun _=>Pure.pure ρ) H Q E)
 exact W.bind ((h.run n hn).mono (fun x H1 h1=>W.bind ((h1.run n hn).mono (fun y H2 h2=>W.bind (h2.mono (fun _ _ z=>by first | exact z | exact W.ok rfl z) (fun _ _ z=>z))) (fun _ _ z=>z))) (fun _ _ z=>z))
theorem Tal.nil {Q : Lo→List O→Prop} (h : Q ρ H) : Tal k cs ρ [] [] H Q E:=⟨fun n _=>W.ok rfl h⟩
theorem Tal.cons {t : T} {ts : List T} {v : V} {vs : List V} {Q : Lo→List O→Prop} (h : Tas k cs ρ v t H (fun ρ1 H1=>Tal k cs ρ1 ts vs H1 Q E) E) : Tal k cs ρ (t :: ts) (v :: vs) H Q E:=by
 refine ⟨fun n hn=>?_⟩
 refine (?_ : W (asgM methT (ev n) cs ρ v t >>= fun ρ1=>asgAll methT (ev n) cs ρ1 ts vs) H Q E)
 exact W.bind ((h.run n hn).mono (fun _ _ z=>z.run n hn) (fun _ _ z=>z))
theorem Tc.fn {f : Nat} {as : List V} {Q : PQ} (hb : isB f = true) (h : Tf k f [] as H Q E) : Tc k (.fn f) as H Q E:=by
 refine ⟨fun n hn=>?_⟩
 refine (?_ : W (if isB f then (ev n).fn f [] as else Mp.stuck) H Q E)
 rw [if_pos hb]; exact h.run n hn
theorem Tc.clo {r f : Nat} {cl : List Nat} {as : List V} {Q : PQ} (e : H[r]? = some (.clo f cl)) (hb : isC f = true) (h : Tf k f cl as H Q E) : Tc k (.ref r) as H Q E:=by
 refine ⟨fun n hn=>?_⟩
 refine (?_ : W (getO r >>= fun o=>match o with | .clo f cs=>if isC f then (ev n).fn f cs as else Mp.stuck | _=>Mp.stuck) H Q E)
 refine W.bind (W.get e ?_)
 refine (?_ : W (if isC f then (ev n).fn f cl as else Mp.stuck) H Q E)
 rw [if_pos hb]; exact h.run n hn
theorem Tc.blt {b : Nat} {as : List V} {Q : PQ} (h : W (bltM b as) H Q E) : Tc k (.blt b) as H Q E:=⟨fun n _=>h⟩
theorem Tc.ty {b : Nat} {as : List V} {Q : PQ} (h : W (tyM b as) H Q E) : Tc k (.ty b) as H Q E:=⟨fun n _=>h⟩
theorem Tc.inst {c : Nat} {as : List V} {Q : PQ} (hc : (Nat.blt c 6 && isB (iniT c)) = true) (hx : excT c = false) (h : Tf k (iniT c) [] (.ref (H.length + 1) :: as) (H ++ [.attrs []] ++ [.inst c H.length]) (fun v H1=>v = .none∧Q (.ref (H.length + 1)) H1) E) : Tc k (.cls c) as H Q E:=by
 refine ⟨fun n hn=>?_⟩
 refine (?_ : W (if Nat.blt c 6 && isB (iniT c) then ((if excT c then new (.exc c none false) else (new (.attrs []) >>= fun d=>new (.inst c d))) >>= fun x=>(ev n).fn (iniT c) [] (.ref x :: as) >>= fun r=>match r with | .none=>Pure.pure (.ref x) | _=>Mp.stuck) else Mp.stuck) H Q E)
 rw [if_pos hc,hx]
 have hl : (H ++ [O.attrs []]).length = H.length + 1:=by rw [List.length_append]; rfl
 refine W.bind (W.ok (a:=H.length + 1) (H':=H ++ [.attrs []] ++ [.inst c H.length]) ?_ ?_)
 ·refine (?_ : Res.ok (H ++ [O.attrs []]).length _ = _)
  rw [hl]
 refine W.bind ((h.run n hn).mono (fun v H1 h1=>?_) (fun _ _ z=>z))
 obtain ⟨rfl,h1⟩:=h1
 exact W.ok rfl h1
theorem Tc.exc {c : Nat} {as : List V} {Q : PQ} (hc : (Nat.blt c 6 && isB (iniT c)) = true) (hx : excT c = true) (h : Tf k (iniT c) [] (.ref H.length :: as) (H ++ [.exc c none false]) (fun v H1=>v = .none∧Q (.ref H.length) H1) E) : Tc k (.cls c) as H Q E:=by
 refine ⟨fun n hn=>?_⟩
 refine (?_ : W (if Nat.blt c 6 && isB (iniT c) then ((if excT c then new (.exc c none false) else (new (.attrs []) >>= fun d=>new (.inst c d))) >>= fun x=>(ev n).fn (iniT c) [] (.ref x :: as) >>= fun r=>match r with | .none=>Pure.pure (.ref x) | _=>Mp.stuck) else Mp.stuck) H Q E)
 rw [if_pos hc,hx]
 refine W.bind (W.ok (a:=H.length) (H':=H ++ [.exc c none false]) rfl ?_)
 refine W.bind ((h.run n hn).mono (fun v H1 h1=>?_) (fun _ _ z=>z))
 obtain ⟨rfl,h1⟩:=h1
 exact W.ok rfl h1
noncomputable def cellsOf : List (Option V)→List O | []=>[] | v :: r=>.cell v :: cellsOf r
noncomputable def addrs (n : Nat) : List (Option V)→List Nat | []=>[] | _ :: r=>n :: addrs (n + 1) r
theorem newCells_eq : ∀ (cv : List (Option V)) (H : List O),newCells cv H = .ok (addrs H.length cv) (H ++ cellsOf cv)
 | [],H=>by show Res.ok [] H = _; rw [show H ++ cellsOf [] = H from List.append_nil H]; rfl
 | v :: r,H=>by
  have e : newCells (v :: r) H = M.bind (newCells r) (fun l=>M.pure (H.length :: l)) (H ++ [.cell v]):=rfl
  rw [e]; unfold M.bind; rw [newCells_eq r]
  have hl : (H ++ [O.cell v]).length = H.length + 1:=by rw [List.length_append]; rfl
  refine (?_ : Res.ok (H.length :: addrs (H ++ [O.cell v]).length r) (H ++ [O.cell v] ++ cellsOf r) = Res.ok (H.length :: addrs (H.length + 1) r) (H ++ (.cell v :: cellsOf r)))
  rw [hl,List.append_assoc]; rfl
theorem Tf.bodyL {f : Nat} {F : Fn} {cl : List Nat} {as : List V} {ρ : Lo} {cv : List (Option V)} {b : List S} {Q : PQ} (hF : fnT f = F) (eb : F.body = .inl b) (e : bindP F.pars (fillD F as) (List.replicate F.nloc none) (List.replicate F.ncell none) = some (ρ,cv)) (h : Tss k (addrs H.length cv ++ cl) ρ b (H ++ cellsOf cv) (Rq Q) E) : Tf (k + 1) f cl as H Q E:=by
 refine ⟨up_of fun n hk=>?_⟩
 refine (?_ : W (fnStep fnT (ev n) f cl as) H Q E)
 unfold fnStep
 dsimp only
 rw [hF,e]
 dsimp only
 refine W.bind (W.ok (newCells_eq cv H) ?_)
 rw [eb]
 refine W.bind ((h.run n hk).mono (fun p H1 h1=>?_) (fun _ _ z=>z))
 induction h1 with
 | nxt h1=>exact W.pure h1
 | ret h1=>exact W.pure h1
theorem Tf.bodyR {f : Nat} {F : Fn} {cl : List Nat} {as : List V} {ρ : Lo} {cv : List (Option V)} {b : Mp.E} {Q : PQ} (hF : fnT f = F) (eb : F.body = .inr b) (e : bindP F.pars (fillD F as) (List.replicate F.nloc none) (List.replicate F.ncell none) = some (ρ,cv)) (h : Te k (addrs H.length cv ++ cl) ρ b (H ++ cellsOf cv) Q E) : Tf (k + 1) f cl as H Q E:=by
 refine ⟨up_of fun n hk=>?_⟩
 refine (?_ : W (fnStep fnT (ev n) f cl as) H Q E)
 unfold fnStep
 dsimp only
 rw [hF,e]
 dsimp only
 refine W.bind (W.ok (newCells_eq cv H) ?_)
 rw [eb]
 exact h.run n hk
theorem Tsrc.rng1 {a : Mp.E} {Q : Src→List O→Prop} (h : Te k cs ρ a H (fun x H1=>∃ i : Int,x = .int i∧i.natAbs < 1000000∧Q (.rng 0 i.toNat) H1) E) : Tsrc k cs ρ (.call (.glo (.ty 3)) [a]) H Q E:=by
 refine ⟨fun n hn=>?_⟩
 refine W.bind ((h.run n hn).mono (fun x H1 h1=>?_) (fun _ _ z=>z))
 (refine ex1_3 h1 fun i z76q e z77q=>?_; clear h1; subst z76q; revert z77q; intro h1)
 refine (?_ : W (if i.natAbs < 1000000 then Pure.pure (.rng 0 i.toNat) else Mp.stuck) H1 Q E)
 rw [if_pos e]; exact W.ok rfl h1
theorem Tsrc.rng2 {a b : Mp.E} {Q : Src→List O→Prop} (h : Tes k cs ρ [a,b] H (fun x H1=>∃ i j : Int,x = [.int i,.int j]∧(i.natAbs < 1000000∧j.natAbs < 1000000)∧Q (.rng i (j - i).toNat) H1) E) : Tsrc k cs ρ (.call (.glo (.ty 3)) [a,b]) H Q E:=by
 refine ⟨fun n hn=>?_⟩
 refine W.bind ((h.run n hn).mono (fun x H1 h1=>?_) (fun _ _ z=>z))
 (refine ex2_3 h1 fun i j z78q e z79q=>?_; clear h1; subst z78q; revert z79q; intro h1)
 refine (?_ : W (if i.natAbs < 1000000∧j.natAbs < 1000000 then Pure.pure (.rng i (j - i).toNat) else Mp.stuck) H1 Q E)
 rw [if_pos e]; exact W.ok rfl h1
theorem Tsrc.enm {a : Mp.E} {Q : Src→List O→Prop} (h : Te k cs ρ a H (fun x H1=>∃ r xs,x = .ref r∧H1[r]? = some (.list xs)∧Q (.enm r 0) H1) E) : Tsrc k cs ρ (.call (.glo (.ty 4)) [a]) H Q E:=by
 refine ⟨fun n hn=>?_⟩
 refine W.bind ((h.run n hn).mono (fun x H1 h1=>?_) (fun _ _ z=>z))
 (refine ex2_3 h1 fun r xs z80q e z81q=>?_; clear h1; subst z80q; revert z81q; intro h1)
 exact W.bind (W.get e (W.ok rfl h1))
theorem Tsrc.loc {x : Nat} {r : Nat} {xs : List V} {Q : Src→List O→Prop} (e : ρ[x]? = some (some (.ref r))) (e2 : H[r]? = some (.list xs)) (h : Q (.seq r 0) H) : Tsrc (k + 1) cs ρ (.loc x) H Q E:=by
 refine ⟨fun n hn=>?_⟩
 exact W.bind (((Te.loc (k:=k) (E:=E) (Q:=fun x H1=>x = .ref r∧H1 = H) e ⟨rfl,rfl⟩).run n hn).mono (fun x H1 h1=>by obtain ⟨rfl,rfl⟩:=h1; exact W.bind (W.get e2 (W.ok rfl h))) (fun _ _ z=>z))
theorem Tsrc.cel {x c : Nat} {r : Nat} {xs : List V} {Q : Src→List O→Prop} (e : cs[x]? = some c) (e1 : H[c]? = some (.cell (some (.ref r)))) (e2 : H[r]? = some (.list xs)) (h : Q (.seq r 0) H) : Tsrc (k + 1) cs ρ (.cel x) H Q E:=by
 refine ⟨fun n hn=>?_⟩
 exact W.bind (((Te.cel (k:=k) (E:=E) (Q:=fun x H1=>x = .ref r∧H1 = H) e e1 ⟨rfl,rfl⟩).run n hn).mono (fun x H1 h1=>by obtain ⟨rfl,rfl⟩:=h1; exact W.bind (W.get e2 (W.ok rfl h))) (fun _ _ z=>z))
theorem Tsrc.meth {o : Mp.E} {m : Nat} {as : List Mp.E} {Q : Src→List O→Prop} (h : Te k cs ρ (.meth o m as) H (fun x H1=>∃ r xs,x = .ref r∧H1[r]? = some (.list xs)∧Q (.seq r 0) H1) E) : Tsrc k cs ρ (.meth o m as) H Q E:=by
 refine ⟨fun n hn=>?_⟩
 refine W.bind ((h.run n hn).mono (fun x H1 h1=>?_) (fun _ _ z=>z))
 (refine ex2_3 h1 fun r xs z82q e z83q=>?_; clear h1; subst z82q; revert z83q; intro h1)
 exact W.bind (W.get e (W.ok rfl h1))
theorem Tsrc.bin {o : Bop} {a b : Mp.E} {Q : Src→List O→Prop} (h : Te k cs ρ (.bin o a b) H (fun x H1=>∃ r xs,x = .ref r∧H1[r]? = some (.list xs)∧Q (.seq r 0) H1) E) : Tsrc k cs ρ (.bin o a b) H Q E:=by
 refine ⟨fun n hn=>?_⟩
 refine W.bind ((h.run n hn).mono (fun x H1 h1=>?_) (fun _ _ z=>z))
 (refine ex2_3 h1 fun r xs z84q e z85q=>?_; clear h1; subst z84q; revert z85q; intro h1)
 exact W.bind (W.get e (W.ok rfl h1))
theorem W.getA {r c d m : Nat} {fs : List (Nat × V)} {v : V} {Q : PQ} (e : H[r]? = some (.inst c d)) (e2 : H[d]? = some (.attrs fs)) (hk : (okA methT c m && !Nat.beq c 1) = true) (el : lookA m fs = some v) (h : Q v H) : W (Mp.getA methT (.ref r) m) H Q E:=by
 refine W.bind (W.get e ?_)
 refine (?_ : W (if okA methT c m && !Nat.beq c 1 then (attrsOf d >>= fun fs=>opt (lookA m fs)) else Mp.stuck) H Q E)
 rw [if_pos hk]
 refine W.bind (W.bind (W.get e2 (W.pure ?_)))
 rw [el]; exact W.ok rfl h
theorem W.setA {r c d m : Nat} {fs : List (Nat × V)} {v : V} {Q : Unit→List O→Prop} (e : H[r]? = some (.inst c d)) (e2 : H[d]? = some (.attrs fs)) (hk : (okA methT c m && !Nat.beq c 1) = true) (el : fs.length < 100) (h : Q () (H.set d (.attrs (putA m v fs)))) : W (Mp.setA methT (.ref r) m v) H Q E:=by
 refine W.bind (W.get e ?_)
 refine (?_ : W (if okA methT c m && !Nat.beq c 1 then (attrsOf d >>= fun fs=>if fs.length < 100 then setO d (.attrs (putA m v fs)) else Mp.stuck) else Mp.stuck) H Q E)
 rw [if_pos hk]
 refine W.bind (W.bind (W.get e2 (W.pure ?_)))
 rw [if_pos el]; exact W.ok rfl h
theorem W.getAx {r d m : Nat} {u : Bool} {fs : List (Nat × V)} {v : V} {Q : PQ} (e : H[r]? = some (.exc 1 (some d) u)) (e2 : H[d]? = some (.attrs fs)) (hk : okA methT 1 m = true) (el : lookA m fs = some v) (h : Q v H) : W (Mp.getA methT (.ref r) m) H Q E:=by
 refine W.bind (W.get e ?_)
 refine (?_ : W (if okA methT 1 m && Nat.beq 1 1 then (attrsOf d >>= fun fs=>opt (lookA m fs)) else Mp.stuck) H Q E)
 rw [if_pos (by rw [hk]; rfl)]
 refine W.bind (W.bind (W.get e2 (W.pure ?_)))
 rw [el]; exact W.ok rfl h
theorem W.setAx {r d m : Nat} {u : Bool} {fs : List (Nat × V)} {v : V} {Q : Unit→List O→Prop} (e : H[r]? = some (.exc 1 (some d) u)) (e2 : H[d]? = some (.attrs fs)) (hk : okA methT 1 m = true) (el : fs.length < 100) (h : Q () (H.set d (.attrs (putA m v fs)))) : W (Mp.setA methT (.ref r) m v) H Q E:=by
 refine W.bind (W.get e ?_)
 refine (?_ : W (if okA methT 1 m && Nat.beq 1 1 then (attrsOf d >>= fun fs=>if fs.length < 100 then setO d (.attrs (putA m v fs)) else Mp.stuck) else Mp.stuck) H Q E)
 rw [if_pos (by rw [hk]; rfl)]
 refine W.bind (W.bind (W.get e2 (W.pure ?_)))
 rw [if_pos el]; exact W.ok rfl h
theorem W.setAx0 {r m : Nat} {u : Bool} {v : V} {Q : Unit→List O→Prop} (e : H[r]? = some (.exc 1 none u)) (hk : okA methT 1 m = true) (h : Q () ((H ++ [O.attrs [(m,v)]]).set r (.exc 1 (some H.length) u))) : W (Mp.setA methT (.ref r) m v) H Q E:=by
 refine W.bind (W.get e ?_)
 refine (?_ : W (if okA methT 1 m && Nat.beq 1 1 then (new (.attrs [(m,v)]) >>= fun d=>setO r (.exc 1 (some d) u)) else Mp.stuck) H Q E)
 rw [if_pos (by rw [hk]; rfl)]
 exact W.ok rfl h
theorem W.own {r c d m f : Nat} {fs : List (Nat × V)} {Q : Tgt→List O→Prop} (e : H[r]? = some (.inst c d)) (e2 : H[d]? = some (.attrs fs)) (hk : (Nat.blt c 6 && Nat.blt m 60 && !Nat.beq c 1) = true) (em : methT c m = some f) (el : lookA m fs = none) (hb : isB f = true) (h : Q (.own f) H) : W (target methT isB (.ref r) m) H Q E:=by
 refine W.bind (W.get e ?_)
 show W (if Nat.blt c 6 && Nat.blt m 60 && !Nat.beq c 1 then (attrsOf d >>= fun fs=>match methT c m,lookA m fs with
   | some k,none=>if isB k then Pure.pure (.own k) else Mp.stuck
   | none,some v=>Pure.pure (.val v)
   | _,_=>Mp.stuck) else Mp.stuck) H Q E
 rw [if_pos hk]
 refine W.bind (W.bind (W.get e2 (W.pure ?_)))
 rw [em,el]
 refine (?_ : W (if isB f then Pure.pure (.own f) else Mp.stuck) H Q E)
 rw [if_pos hb]; exact W.ok rfl h
theorem W.val {r c d m : Nat} {v : V} {fs : List (Nat × V)} {Q : Tgt→List O→Prop} (e : H[r]? = some (.inst c d)) (e2 : H[d]? = some (.attrs fs)) (hk : (Nat.blt c 6 && Nat.blt m 60 && !Nat.beq c 1) = true) (em : methT c m = none) (el : lookA m fs = some v) (h : Q (.val v) H) : W (target methT isB (.ref r) m) H Q E:=by
 refine W.bind (W.get e ?_)
 show W (if Nat.blt c 6 && Nat.blt m 60 && !Nat.beq c 1 then (attrsOf d >>= fun fs=>match methT c m,lookA m fs with
   | some k,none=>if isB k then Pure.pure (.own k) else Mp.stuck
   | none,some v=>Pure.pure (.val v)
   | _,_=>Mp.stuck) else Mp.stuck) H Q E
 rw [if_pos hk]
 refine W.bind (W.bind (W.get e2 (W.pure ?_)))
 rw [em,el]
 exact W.ok rfl h
theorem W.lbi {r m : Nat} {xs : List V} {Q : Tgt→List O→Prop} (e : H[r]? = some (.list xs)) (hk : (Nat.beq m 1000 || Nat.beq m 1001) = true) (h : Q .bi H) : W (target methT isB (.ref r) m) H Q E:=by
 refine W.bind (W.get e ?_)
 refine (?_ : W (if Nat.beq m 1000 || Nat.beq m 1001 then Pure.pure .bi else Mp.stuck) H Q E)
 rw [if_pos hk]; exact W.ok rfl h
theorem W.app {r : Nat} {x : V} {xs : List V} {Q : PQ} (e : H[r]? = some (.list xs)) (hk : xs.length < 50000) (h : Q .none (H.set r (.list (xs ++ [x])))) : W (bltMeth (.ref r) 1000 [x]) H Q E:=by
 refine W.bind (W.get e ?_)
 refine (?_ : W (if xs.length < 50000 then (setO r (.list (xs ++ [x])) >>= fun _=>Pure.pure .none) else Mp.stuck) H Q E)
 rw [if_pos hk]; exact W.ok rfl h
theorem W.pop {r : Nat} {x : V} {xs : List V} {Q : PQ} (e : H[r]? = some (.list (xs ++ [x]))) (h : Q x (H.set r (.list xs))) : W (bltMeth (.ref r) 1001 []) H Q E:=by
 refine W.bind (W.get e ?_)
 refine (?_ : W (match (xs ++ [x]).getLast? with | some y=>(setO r (.list (xs ++ [x]).dropLast) >>= fun _=>Pure.pure y) | none=>Mp.stuck) H Q E)
 rw [List.getLast?_concat,List.dropLast_concat]; exact W.ok rfl h
theorem W.getI {r i : Nat} {v : V} {xs : List V} {Q : PQ} (e : H[r]? = some (.list xs)) (hk : xs[i]? = some v) (h : Q v H) : W (Mp.getI (.ref r) (.int i)) H Q E:=by
 refine W.bind (W.get e ?_)
 refine (?_ : W (opt (idx i) >>= fun k=>opt (xs[k]?)) H Q E)
 refine W.bind (W.ok (a:=i) (H':=H) rfl ?_)
 rw [hk]; exact W.ok rfl h
theorem W.setI {r i : Nat} {v : V} {xs : List V} {Q : Unit→List O→Prop} (e : H[r]? = some (.list xs)) (hk : i < xs.length) (h : Q () (H.set r (.list (xs.set i v)))) : W (Mp.setI (.ref r) (.int i) v) H Q E:=by
 refine W.bind (W.get e ?_)
 refine (?_ : W (opt (idx i) >>= fun k=>if k < xs.length then setO r (.list (xs.set k v)) else Mp.stuck) H Q E)
 refine W.bind (W.ok (a:=i) (H':=H) rfl ?_)
 rw [if_pos hk]; exact W.ok rfl h
theorem W.len {r : Nat} {xs : List V} {Q : PQ} (e : H[r]? = some (.list xs)) (h : Q (.int xs.length) H) : W (bltM 0 [.ref r]) H Q E:=W.bind (W.get e (W.ok rfl h))
theorem W.isT {r c d : Nat} {t : V} {b : Bool} {Q : PQ} (e : H[r]? = some (.inst c d)) (hk : (Nat.blt c 6 && !Nat.beq c 1) = true) (eo : isOf c t = some b) (h : Q (.bool b) H) : W (bltM 1 [.ref r,t]) H Q E:=by
 refine W.bind (W.bind (W.get e ?_))
 refine (?_ : W (if Nat.blt c 6 && !Nat.beq c 1 then opt (isOf c t) else Mp.stuck) H _ E)
 rw [if_pos hk,eo]; exact W.ok rfl (W.ok rfl h)
theorem W.isP {v t : V} {j : Nat} {b : Bool} {Q : PQ} (e : isTyM v t H = .ok b H) (h : Q (.bool b) H) : W (bltM 1 [v,t]) H Q E:=W.bind (W.ok e (W.ok rfl h))
theorem Tf.use {k' f : Nat} {cl : List Nat} {as : List V} {Q Q' : PQ} {E' : PE} (h : Tf k' f cl as H Q' E') (hk : k' ≤ k) (hq : ∀ a H',Q' a H'→Q a H') (he : ∀ e H',E' e H'→E e H') : Tf k f cl as H Q E:=⟨fun n hn=>(h.run n (Nat.le_trans hk hn)).mono hq he⟩
noncomputable def Pu (k f : Nat) (cl : List Nat) (as : List V) (H : List O) (v : V) : Prop:=Tf k f cl as H (fun a H'=>a = v∧H' = H) (fun _ _=>False)
theorem Pu.use {k' f : Nat} {cl : List Nat} {as : List V} {v : V} {Q : PQ} (h : Pu k' f cl as H v) (hk : k' ≤ k) (hq : Q v H) : Tf k f cl as H Q E:=Tf.use h hk (fun _ _ z=>by obtain ⟨rfl,rfl⟩:=z; exact hq) (fun _ _ z=>z.elim)
theorem Pu.of_eq {k f : Nat} {cl : List Nat} {as : List V} {v : V} (h : ∀ m,(ev (m + k)).fn f cl as H = .ok v H) : Pu k f cl as H v:=by
 refine ⟨fun n hn=>?_⟩
 obtain ⟨m,rfl⟩ : ∃ m,n = m + k:=⟨n - k,by omega⟩
 exact W.ok (h m) ⟨rfl,rfl⟩
end Mp
end
section
set_option autoImplicit false
namespace Mp
theorem get_lt {H : List O} {a : Nat} {o : O} (h : H[a]? = some o) : a < H.length:=(List.getElem?_eq_some_iff.mp h).1
theorem get_app {H : List O} {a : Nat} {o x : O} (h : H[a]? = some o) : (H ++ [x])[a]? = some o:=by
 rw [List.getElem?_append_left (get_lt h)]; exact h
theorem get_new {H : List O} {x : O} : (H ++ [x])[H.length]? = some x:=List.getElem?_concat_length
theorem get_newL {H : List O} {x : O} {a : Nat} (h : a = H.length) : (H ++ [x])[a]? = some x:=by rw [h]; exact get_new
theorem get_ne {H : List O} {a b : Nat} {o x : O} (hn : b ≠ a) (h : H[a]? = some o) : (H.set b x)[a]? = some o:=by
 rw [List.getElem?_set_ne hn]; exact h
theorem get_eq {H : List O} {a : Nat} {o x : O} (h : H[a]? = some o) : (H.set a x)[a]? = some x:=by
 rw [List.getElem?_set_self (get_lt h)]
theorem ne_get {H : List O} {a b : Nat} {x y : O} (ha : H[a]? = some x) (hb : H[b]? = some y) (hn : x ≠ y) : a ≠ b:=by
 rintro rfl
 exact hn (Option.some.inj (ha.symm.trans hb))
theorem ne_getD {H : List O} {a b : Nat} {x y : O} (ha : H[a]? = some x) (hb : H[b]? = some y) (hn : Nat.beq x.ctorIdx y.ctorIdx = false) : a ≠ b:=ne_get ha hb fun e=>Nat.ne_of_beq_eq_false hn (congrArg O.ctorIdx e)
theorem prot {P : Prop} (h : P) : P:=h
theorem ne_off {B i j : Nat} (h : Nat.beq i j = false) : B + i ≠ B + j:=fun e=>Nat.ne_of_beq_eq_false h (Nat.add_left_cancel e)
theorem ne_off0 {B j : Nat} (h : Nat.beq 0 j = false) : B ≠ B + j:=ne_off (B:=B) h
theorem ne_off1 {B i : Nat} (h : Nat.beq i 0 = false) : B + i ≠ B:=ne_off (B:=B) h
theorem ne_litR {B i c lo : Nat} (h : lo ≤ B) (d : Nat.blt c (lo + i) = true) : c ≠ B + i:=fun e=>
 absurd (Nat.lt_of_lt_of_le (Nat.le_of_ble_eq_true d) (Nat.add_le_add_right h i)) (by rw [← e]; exact Nat.lt_irrefl c)
theorem ne_litL {B i c lo : Nat} (h : lo ≤ B) (d : Nat.blt c (lo + i) = true) : B + i ≠ c:=(ne_litR h d).symm
theorem ne_lit0R {B c lo : Nat} (h : lo ≤ B) (d : Nat.blt c lo = true) : c ≠ B:=ne_litR (i:=0) h d
theorem ne_lit0L {B c lo : Nat} (h : lo ≤ B) (d : Nat.blt c lo = true) : B ≠ c:=(ne_lit0R h d).symm
theorem nm_c {a b : Nat} {l : List Nat} (h : a ≠ b) (r : a ∉ l) : a ∉ b :: l:=List.not_mem_cons_of_ne_of_not_mem h r
theorem nm_0 {a : Nat} : a ∉ ([] : List Nat):=List.not_mem_nil
theorem ws_c {b n : Nat} {w l : List Nat} (h : b ∈ w ∨ n ≤ b) (r : ∀ x,x ∈ l→x ∈ w ∨ n ≤ x) : ∀ x,x ∈ b :: l→x ∈ w ∨ n ≤ x:=fun x hx=>by
 rcases List.mem_cons.mp hx with rfl | hx
 ·exact h
 ·exact r x hx
theorem ws_0 {n : Nat} {w : List Nat} : ∀ x,x ∈ ([] : List Nat)→x ∈ w ∨ n ≤ x:=fun x hx=>absurd hx List.not_mem_nil
theorem w4_c {b n : Nat} {l : List Nat} (h : b = 3 ∨ b = 6 ∨ b = 8 ∨ n ≤ b) (r : ∀ x,x ∈ l→x = 3 ∨ x = 6 ∨ x = 8 ∨ n ≤ x) : ∀ x,x ∈ b :: l→x = 3 ∨ x = 6 ∨ x = 8 ∨ n ≤ x:=fun x hx=>by
 rcases List.mem_cons.mp hx with rfl | hx
 ·exact h
 ·exact r x hx
theorem w4_0 {n : Nat} : ∀ x,x ∈ ([] : List Nat)→x = 3 ∨ x = 6 ∨ x = 8 ∨ n ≤ x:=fun x hx=>absurd hx List.not_mem_nil
theorem len_app {H : List O} {x : O} {a : Nat} (h : a = H.length) : a + 1 = (H ++ [x]).length:=by rw [h,List.length_append]; rfl
theorem len_set {H : List O} {x : O} {a i : Nat} (h : a = H.length) : a = (H.set i x).length:=by rw [h,List.length_set]
theorem Tf.bodyL0 {k : Nat} {H : List O} {E : PE} {f : Nat} {F : Fn} {cl : List Nat} {as : List V} {ρ : Lo} {b : List S} {Q : PQ} (hF : fnT f = F) (eb : F.body = .inl b) (e0 : F.ncell = 0) (e : bindP F.pars (fillD F as) (List.replicate F.nloc none) (List.replicate F.ncell none) = some (ρ,[])) (h : Tss k cl ρ b H (Rq Q) E) : Tf (k + 1) f cl as H Q E:=by
 refine Tf.bodyL hF eb e ?_
 rw [show cellsOf [] = [] from rfl,List.append_nil,show addrs H.length [] = [] from rfl,List.nil_append]
 exact h
theorem ex_int {i : Int} {P : Int→Prop} (h : P i) : ∃ j : Int,V.int i = V.int j∧P j:=⟨i,rfl,h⟩
theorem ex_tup {H1 : List O} {r : Nat} {xs : List V} {ts : List T} {P : List V→Prop} (e : H1[r]? = some (.tup xs)) (hl : Nat.beq xs.length ts.length = true) (h : P xs) : ∃ r' xs',V.ref r = V.ref r'∧H1[r']? = some (.tup xs')∧Nat.beq xs'.length ts.length = true∧P xs':=⟨r,xs,rfl,e,hl,h⟩
theorem ex_lst {H1 : List O} {r : Nat} {xs : List V} {P : Nat→Prop} (e : H1[r]? = some (.list xs)) (h : P r) : ∃ r' xs',V.ref r = V.ref r'∧H1[r']? = some (.list xs')∧P r':=⟨r,xs,rfl,e,h⟩
noncomputable def pv (ρ : Lo) : Mp.E→Option V
 | .cst v=>some v
 | .glo v=>some v
 | .loc x=>(ρ[x]?).join
 | _=>none
noncomputable def pvs (ρ : Lo) : List Mp.E→Option (List V)
 | []=>some []
 | a :: r=>(pv ρ a).bind fun v=>(pvs ρ r).map fun vs=>v :: vs
section
variable {k : Nat} {cs : List Nat} {ρ : Lo} {H : List O} {E : PE} {Q : PQ}
theorem Te.pv {e : Mp.E} {v : V} (h0 : pv ρ e = some v) (h : Q v H) : Te (k + 1) cs ρ e H Q E:=by
 unfold Mp.pv at h0
 split at h0
 ·cases h0; exact .cst h
 ·cases h0; exact .glo h
 ·exact .loc (Option.join_eq_some_iff.mp h0) h
 ·injection h0
theorem Tes.pv : ∀ {as : List Mp.E} {vs : List V} {k : Nat} {Q : List V→List O→Prop},pvs ρ as = some vs→Nat.ble (as.length + 1) k = true→Q vs H→Tes k cs ρ as H Q E
 | [],_,k + 1,_,h0,_,h=>by
  cases h0
  exact .nil h
 | a :: r,_,k + 1,_,h0,hk,h=>by
  refine ex1_2 (Option.bind_eq_some_iff.mp h0) fun v e h0=>?_
  (refine ex1_2 (Option.map_eq_some_iff.mp h0) fun vs e2 z1q=>?_; subst z1q)
  induction k with
  | zero=>injection hk
  | succ k=>exact .cons (.pv e (Tes.pv e2 hk h))
theorem Te.binP {o : Bop} {a b : Mp.E} {x y : V} (h1 : Mp.pv ρ a = some x) (h2 : Mp.pv ρ b = some y) (h : W (binM o x y) H Q E) : Te (k + 2) cs ρ (.bin o a b) H Q E:=.bin (.pv h1 (.pv h2 h))
theorem Te.binL {o : Bop} {a b : Mp.E} {x : V} (h1 : Mp.pv ρ a = some x) (h : Te (k + 1) cs ρ b H (fun y H2=>W (binM o x y) H2 Q E) E) : Te (k + 2) cs ρ (.bin o a b) H Q E:=.bin (.pv h1 h)
theorem Te.cmpP {o : Cop} {a b : Mp.E} {x y : V} (h1 : Mp.pv ρ a = some x) (h2 : Mp.pv ρ b = some y) (h : W (cmpM o x y) H Q E) : Te (k + 2) cs ρ (.cmp o a b) H Q E:=.cmp (.pv h1 (.pv h2 h))
theorem Te.cmpL {o : Cop} {a b : Mp.E} {x : V} (h1 : Mp.pv ρ a = some x) (h : Te (k + 1) cs ρ b H (fun y H2=>W (cmpM o x y) H2 Q E) E) : Te (k + 2) cs ρ (.cmp o a b) H Q E:=.cmp (.pv h1 h)
theorem Te.subP {a b : Mp.E} {x y : V} (h1 : Mp.pv ρ a = some x) (h2 : Mp.pv ρ b = some y) (h : W (getI x y) H Q E) : Te (k + 2) cs ρ (.sub a b) H Q E:=.sub (.pv h1 (.pv h2 h))
theorem Te.subL {a b : Mp.E} {x : V} (h1 : Mp.pv ρ a = some x) (h : Te (k + 1) cs ρ b H (fun y H2=>W (getI x y) H2 Q E) E) : Te (k + 2) cs ρ (.sub a b) H Q E:=.sub (.pv h1 h)
theorem Te.attrP {a : Mp.E} {m : Nat} {x : V} (h1 : Mp.pv ρ a = some x) (h : W (getA methT x m) H Q E) : Te (k + 2) cs ρ (.attr a m) H Q E:=.attr (.pv h1 h)
theorem Te.callP {f : Mp.E} {as : List Mp.E} {g : V} {vs : List V} (h1 : Mp.pv ρ f = some g) (h2 : pvs ρ as = some vs) (hk : Nat.ble (as.length + 1) (k + 1) = true) (h : Tc (k + 1) g vs H Q E) : Te (k + 2) cs ρ (.call f as) H Q E:=.call (.pv h1 (.pv h2 hk h))
theorem Te.callL {f : Mp.E} {as : List Mp.E} {g : V} (h1 : Mp.pv ρ f = some g) (h : Tes (k + 1) cs ρ as H (fun vs H2=>Tc (k + 1) g vs H2 Q E) E) : Te (k + 2) cs ρ (.call f as) H Q E:=.call (.pv h1 h)
theorem Te.methP {o : Mp.E} {m : Nat} {as : List Mp.E} {x : V} {vs : List V} (h1 : Mp.pv ρ o = some x) (h2 : pvs ρ as = some vs) (hk : Nat.ble (as.length + 1) (k + 1) = true)
  (h : W (target methT isB x m) H (fun t H2=>Tq (fun f=>Tf (k + 1) f [] (x :: vs) H2 Q E) (fun v=>Tc (k + 1) v vs H2 Q E) (W (bltMeth x m vs) H2 Q E) t) E) : Te (k + 2) cs ρ (.meth o m as) H Q E:=.meth (.pv h1 (h.mono (fun _ _ z=>.pv h2 hk z) fun _ _ z=>z))
theorem Te.lstP {as : List Mp.E} {vs : List V} (h2 : pvs ρ as = some vs) (hk : Nat.ble (as.length + 1) k = true) (h : Q (.ref H.length) (H ++ [.list vs])) : Te (k + 1) cs ρ (.lst as) H Q E:=.lst (.pv h2 hk h)
theorem Te.tupP {as : List Mp.E} {vs : List V} (h2 : pvs ρ as = some vs) (hk : Nat.ble (as.length + 1) k = true) (h : Q (.ref H.length) (H ++ [.tup vs])) : Te (k + 1) cs ρ (.tup as) H Q E:=.tup (.pv h2 hk h)
theorem Tes.consP {a : Mp.E} {r : List Mp.E} {v : V} {Q : List V→List O→Prop} (h1 : Mp.pv ρ a = some v) (h : Tes (k + 1) cs ρ r H (fun vs H2=>Q (v :: vs) H2) E) : Tes (k + 2) cs ρ (a :: r) H Q E:=.cons (.pv h1 h)
theorem Tt.locP {x : Nat} {v : V} {Q : Bool→List O→Prop} (h1 : Mp.pv ρ (.loc x) = some v) (h : W (Mp.truth v) H Q E) : Tt (k + 2) cs ρ (.loc x) H Q E:=.loc (.pv h1 h)
theorem Tt.cmpP {o : Cop} {a b : Mp.E} {x y : V} {Q : Bool→List O→Prop} (h1 : Mp.pv ρ a = some x) (h2 : Mp.pv ρ b = some y) (h : W (cmpM o x y) H (fun v H1=>W (Mp.truth v) H1 Q E) E) : Tt (k + 3) cs ρ (.cmp o a b) H Q E:=.cmp (.cmpP h1 h2 h)
theorem Tt.callP {f : Mp.E} {as : List Mp.E} {g : V} {vs : List V} {Q : Bool→List O→Prop} (h1 : Mp.pv ρ f = some g) (h2 : pvs ρ as = some vs) (hk : Nat.ble (as.length + 1) (k + 1) = true) (h : Tc (k + 1) g vs H (fun v H1=>W (Mp.truth v) H1 Q E) E) : Tt (k + 3) cs ρ (.call f as) H Q E:=.call (.callP h1 h2 hk h)
theorem Ts.retP {e : Mp.E} {v : V} {Q : PF} (h1 : Mp.pv ρ e = some v) (h : Q (.ret v,ρ) H) : Ts (k + 2) cs ρ (.ret e) H Q E:=.ret (.pv h1 h)
theorem Ts.asgP {x : Nat} {e : Mp.E} {v : V} {Q : PF} (h1 : Mp.pv ρ e = some v) (hx : Nat.blt x ρ.length = true) (h : Q (.nxt,ρ.set x (some v)) H) : Ts (k + 2) cs ρ (.asg (.loc x) e) H Q E:=.asg (.pv h1 (.loc (Nat.le_of_ble_eq_true hx) h))
end
--MAC
local macro_rules | `(tactic| walk_at $s:str)=>do
 let l:=match s.getString with
  | "p1"=>"Tt.locP:r Ts.retP:r Te.attrP:r Tes.consP:r Tt.cmpP:rr Te.binP:rr Te.cmpP:rr Te.subP:rr Ts.asgP:rr Te.lstP:rr Te.tupP:rr Te.callP:rrr Tt.callP:rrr Te.methP:rrr Te.binL:r Te.cmpL:r Te.subL:r Te.callL:r Te.cst Te.glo Te.bin Te.cmp Te.call Te.sub Te.attr Te.meth Te.lst Te.tup Te.slc Te.not Te.and Te.or Te.ite Te.dic Te.neg ex_int Tes.nil Tes.cons To.nil To.one Tea.one Tea.cons Teo.one Teo.cons Tt.not Tt.and Tt.or Tt.ite Tt.loc Tt.cmp Tt.call Tt.meth Tt.cel Tta.nil Tta.cons Tto.nil Tto.cons Ts.ex Ts.asg Ts.asgT Ts.augA Ts.ite Ts.wh Ts.fo Ts.ret Ts.brk Ts.pass Tss.nil Tss.cons Tas.attr Tas.sub Tal.nil Tal.cons W.truth Sq.nxt Sq.brk Sq.ret Lq.nxt Lq.brk Lq.ret Rq.nxt Rq.ret Tq.own Tq.val Tq.bi Tc.blt Te.loc:r Ts.augL:r Br.yes:r Br.no:r Tc.fn:r W.ok:r ex_tup:hr W.lbi:hr W.pop:h W.len:h Te.cel:rh W.app:hm Tas.loc:b W.getA:hhrr W.setA:hhrb W.own:hhrrrr W.val:hhrrr W.isT:hrr"
  | "ne"=>"@a Ne.symm:a Nat.ne_of_beq_eq_false:r ne_off:r ne_off0:r ne_off1:r ne_litR:ar ne_litL:ar ne_lit0R:ar ne_lit0L:ar @m"
  | "ln"=>"@r @a Eq.symm:a len_set:l len_app:l"
  | "hs"=>"@a get_new get_app:h get_ne:nh get_eq:h get_newL:l"
  | "nm"=>"nm_0 List.mem_cons_self nm_c:nx List.mem_cons_of_mem:x"
  | "wa"=>"Or.inl:0 Or.inl:10 Or.inl:110 Or.inl:1110 Or.inr:m"
  | "ws"=>"ws_0 ws_c:wy w4_0 w4_c:4y"
  | "w3"=>"Or.inl:r Or.inr:4 @m"
  | "P"=>"@p"
  | "m"=>"@m"
  | _=>""
 if l == "" then Lean.Macro.throwUnsupported
 let rec one (c : Char) : Lean.MacroM (Lean.TSyntax `tactic):=match c with
  | 'r'=>`(tactic| rfl)
  | 'a'=>`(tactic| assumption)
  | 'h'=>`(tactic| walk_at "hs")
  | 'n'=>`(tactic| walk_at "ne")
  | 'l'=>`(tactic| walk_at "ln")
  | 'm'=>`(tactic| first | exact Nat.le_of_ble_eq_true rfl | lia)
  | 'x'=>`(tactic| walk_at "nm")
  | 'w'=>`(tactic| walk_at "wa")
  | 'y'=>`(tactic| walk_at "ws")
  | 'b'=>`(tactic| exact Nat.le_of_ble_eq_true rfl)
  | '4'=>`(tactic| walk_at "w3")
  | '0'=>`(tactic| exact List.mem_cons_self)
  | '1'=>`(tactic| apply List.mem_cons_of_mem)
  | 'p'=>`(tactic| repeat' (walk_at "p1"))
  | _=>`(tactic| skip)
 let rec all (t : Lean.TSyntax `tactic) : List Char→Lean.MacroM (Lean.TSyntax `tactic)
  | []=>pure t
  | c :: cs=>do all (← `(tactic| ($t:tactic; $(← one c):tactic))) cs
 let rec go (ts : Array (Lean.TSyntax `tactic)) : List String→Lean.MacroM (Lean.TSyntax `tactic)
  | []=>`(tactic| first $[| $ts:tactic]*)
  | w :: ws=>do
   let p:=w.splitOn ":"
   let n:=p.headD ""
   let t ← if n.startsWith "@" then one (n.toList.getLastD ' ') else all (← `(tactic| apply $(Lean.mkIdent n.toName))) ((p.drop 1).headD "").toList
   go (ts.push t) ws
 go #[] (l.splitOn " ")
--ENDMAC
theorem c27_none {H : List O} : Pu 12 27 [] [.none] H (.bytes [110,105,108]):=Pu.of_eq fun m=>rfl
theorem c27_fn {H : List O} {r d : Nat} (e : H[r]? = some (.inst 3 d)) : Pu 14 27 [] [.ref r] H (.bytes [102,117,110,99,116,105,111,110]):=by
 refine Tf.bodyL0 (F:=f27) (ρ:=[some (.ref r)]) rfl rfl rfl rfl ?_
 walk_at "P"
 exact ⟨rfl,rfl⟩
noncomputable def simpV : V→Bool | .int _=>true | .bytes _=>true | _=>false
theorem decide_int (a b : Int) : decide (V.int a = V.int b) = decide (a = b):=by
 by_cases h : a = b
 ·subst h; rw [decide_eq_true rfl,decide_eq_true rfl]
 ·rw [decide_eq_false h,decide_eq_false (fun e=>h (V.int.inj e))]
theorem decide_bytes (a b : List Nat) : decide (V.bytes a = V.bytes b) = decide (a = b):=by
 by_cases h : a = b
 ·subst h; rw [decide_eq_true rfl,decide_eq_true rfl]
 ·rw [decide_eq_false h,decide_eq_false (fun e=>h (V.bytes.inj e))]
theorem c28 {H : List O} {a b : V} (ha : simpV a = true) (hb : simpV b = true) : Pu 18 28 [] [a,b] H (.bool (decide (a = b))):=by
 induction a with
 | int a=>
  induction b with
  | int b=>rw [decide_int]; exact Pu.of_eq fun m=>rfl
  | bytes b=>rw [decide_eq_false (by intro h; injection h)]; exact Pu.of_eq fun m=>rfl
  | _=>injection hb
 | bytes a=>
  induction b with
  | bytes b=>rw [decide_bytes]; exact Pu.of_eq fun m=>rfl
  | int b=>rw [decide_eq_false (by intro h; injection h)]; exact Pu.of_eq fun m=>rfl
  | _=>injection hb
 | _=>injection ha
structure TT (H : List O) (t d ks vs : Nat) (nu mt : V) (K L : List V) : Prop where
 inst : H[t]? = some (.inst 2 d)
 att : H[d]? = some (.attrs [(18,nu),(19,.ref ks),(20,.ref vs),(21,mt)])
 keys : H[ks]? = some (.list K)
 vals : H[vs]? = some (.list L)
 len : K.length = L.length
 ne : ks ≠ vs
noncomputable def fnd (x : V) : List V→Nat→Int
 | [],_=>-1
 | y :: r,i=>if y = x then (i : Int) else fnd x r (i + 1)
noncomputable def getV : List V→List V→V→V
 | y :: K,v :: L,x=>if y = x then v else getV K L x
 | _,_,_=>.none
theorem nxt_enm {H : List O} {a i : Nat} {pre R : List V} {y : V} (e : H[a]? = some (.list (pre ++ y :: R))) (hi : pre.length = i) : nextS (.enm a i) H = .ok (some ([.int i,y],.enm a (i + 1))) H:=by
 subst hi
 have e1 : nextS (.enm a pre.length) H = M.bind (getO a) (fun o=>match o with
  | .list xs=>match xs[pre.length]? with
   | some x=>pure (some ([.int pre.length,x],.enm a (pre.length + 1)))
   | none=>pure none
  | _=>stuck) H:=rfl
 rw [e1]; unfold M.bind getO; rw [e]
 dsimp only
 rw [List.getElem?_append_right (Nat.le_refl _),Nat.sub_self]; rfl
theorem nxt_enm0 {H : List O} {a i : Nat} {pre : List V} (e : H[a]? = some (.list pre)) (hi : pre.length = i) : nextS (.enm a i) H = .ok none H:=by
 subst hi
 have e1 : nextS (.enm a pre.length) H = M.bind (getO a) (fun o=>match o with
  | .list xs=>match xs[pre.length]? with
   | some x=>pure (some ([.int pre.length,x],.enm a (pre.length + 1)))
   | none=>pure none
  | _=>stuck) H:=rfl
 rw [e1]; unfold M.bind getO; rw [e]
 dsimp only
 rw [List.getElem?_eq_none (Nat.le_refl _)]; rfl
noncomputable def b21 : List S:=[.ite (.call (.glo (.fn 28)) [.loc 3,.loc 1]) [.ret (.loc 2)] []]
theorem l21 {H : List O} {ks : Nat} {x t : V} (hx : simpV x = true) {E : PE} {Q : PF} : ∀ (R pre : List V) (i : Nat) (a b : Option V),H[ks]? = some (.list (pre ++ R))→pre.length = i→(∀ y ∈ R,simpV y = true)→(∀ a b,fnd x R i = -1→Q (.nxt,[some t,some x,a,b]) H)→(∀ a b,0 ≤ fnd x R i→Q (.ret (.int (fnd x R i)),[some t,some x,a,b]) H)→Tfo (R.length + 30) [] [some t,some x,a,b] [.loc 2,.loc 3] (.enm ks i) b21 H Q E
 | [],pre,i,a,b,e,hi,hs,h1,h2=>Tfo.done (nxt_enm0 (by rw [List.append_nil] at e; exact e) hi) (h1 a b rfl)
 | y :: R,pre,i,a,b,e,hi,hs,h1,h2=>by
  have ih:=l21 (H:=H) (ks:=ks) (t:=t) hx (E:=E) (Q:=Q) R (pre ++ [y]) (i + 1) (some (.int i)) (some y) (by rw [List.append_assoc]; exact e) (by rw [List.length_append,hi]; rfl) (fun z hz=>hs z (List.mem_cons_of_mem _ hz))
  refine (?_ : Tfo (R.length + 30 + 1) _ _ _ _ _ _ _ _)
  refine Tfo.step (nxt_enm e hi) ?_
  unfold b21
  walk_at "P"
  refine (c28 (hs y List.mem_cons_self) hx).use (by walk_at "m") ?_
  walk_at "P"
  refine Br.dec (fun hp=>?_) (fun hp=>?_)
  ·walk_at "P"
   have e2 : fnd x (y :: R) i = (i : Int):=by unfold fnd; rw [if_pos hp]
   rw [e2] at h2
   exact h2 _ _ (Int.natCast_nonneg i)
  ·have e2 : fnd x (y :: R) i = fnd x R (i + 1):=by rw [fnd,if_neg hp]
   rw [e2] at h1 h2
   walk_at "P"
   exact ih h1 h2
theorem fnd_range (x : V) : ∀ (K : List V) (i : Nat),fnd x K i = -1 ∨ (∃ j : Nat,fnd x K i = ((i + j : Nat) : Int)∧j < K.length∧K[j]? = some x)
 | [],i=>.inl rfl
 | y :: K,i=>by
  by_cases h : y = x
  ·refine .inr ⟨0,by unfold fnd; rw [if_pos h]; rfl,Nat.succ_pos _,by rw [h]; rfl⟩
  ·rw [fnd,if_neg h]
   rcases fnd_range x K (i + 1) with e | ⟨j,e,hj,hk⟩
   ·exact .inl e
   ·have e3 : i + 1 + j = i + (j + 1):=by walk_at "m"
    exact .inr ⟨j + 1,by rw [e,e3],Nat.succ_lt_succ hj,hk⟩
theorem c21 {H : List O} {t d ks vs : Nat} {nu mt : V} {K L : List V} {x : V} (T : TT H t d ks vs nu mt K L) (hx : simpV x = true) (hK : ∀ y ∈ K,simpV y = true) {k : Nat} (hl : K.length + 40 ≤ k) : Pu k 21 [] [.ref t,x] H (.int (fnd x K 0)):=by
 refine Tf.le (k:=K.length + 40) ?_ hl
 have e1:=T.inst
 have e2:=T.att
 refine Tf.bodyL0 (F:=f21) (ρ:=[some (.ref t),some x,none,none]) rfl rfl rfl rfl ?_
 have hk : ∀ {Q : PF} {E : PE},(∀ a b,fnd x K 0 = -1→Q (.nxt,[some (.ref t),some x,a,b]) H)→(∀ a b,0 ≤ fnd x K 0→Q (.ret (.int (fnd x K 0)),[some (.ref t),some x,a,b]) H)→Tfo (K.length + 37) [] [some (.ref t),some x,none,none] [.loc 2,.loc 3] (.enm ks 0) b21 H Q E:=fun h1 h2=>⟨fun n hn=>(l21 hx K [] 0 none none (by exact T.keys) rfl hK h1 h2).run n (by walk_at "m")⟩
 refine Tss.cons (Ts.fo (Tsrc.enm ?_))
 walk_at "P"
 refine in2_3 _ _ rfl T.keys ?_
 refine hk (fun a b h=>?_) (fun a b h=>?_)
 ·walk_at "P"
  rw [h]; exact ⟨rfl,rfl⟩
 ·walk_at "P"
  exact ⟨rfl,rfl⟩
theorem getV_of (K L : List V) (x : V) (i : Nat) (hl : K.length = L.length) : (fnd x K i = -1→getV K L x = .none)∧(∀ j : Nat,fnd x K i = ((i + j : Nat) : Int)→L[j]? = some (getV K L x)):=by
 induction K generalizing L i with
 | nil=>
  induction L using List.casesOn with
  | nil=>exact ⟨fun _=>rfl,fun j h=>by have : (-1 : Int) = ((i + j : Nat) : Int):=h; walk_at "m"⟩
  | cons=>injection hl
 | cons y K ih=>
  induction L using List.casesOn with
  | nil=>injection hl
  | cons v L=>
   have ih:=ih L (i + 1) (Nat.succ.inj hl)
   by_cases h : y = x
   ·have e2 : fnd x (y :: K) i = (i : Int):=if_pos h
    have e3 : getV (y :: K) (v :: L) x = v:=if_pos h
    rw [e2,e3]
    refine ⟨fun h=>by walk_at "m",fun j hj=>?_⟩
    cases show j = 0 by walk_at "m"
    rfl
   ·have e2 : fnd x (y :: K) i = fnd x K (i + 1):=if_neg h
    have e3 : getV (y :: K) (v :: L) x = getV K L x:=if_neg h
    rw [e2,e3]
    refine ⟨ih.1,fun j hj=>?_⟩
    induction j using Nat.casesOn with
    | zero=>
     rcases fnd_range x K (i + 1) with e | ⟨j,e,_⟩ <;> walk_at "m"
    | succ j=>exact ih.2 j (by rw [hj]; congr 1; walk_at "m")
theorem c22 {H : List O} {t d ks vs : Nat} {nu mt : V} {K L : List V} {x : V} (T : TT H t d ks vs nu mt K L) (hx : simpV x = true) (hK : ∀ y ∈ K,simpV y = true) {k : Nat} (hl : K.length + 50 ≤ k) : Pu k 22 [] [.ref t,x] H (getV K L x):=by
 refine Tf.le (k:=K.length + 50) ?_ hl
 have e1:=T.inst
 have e2:=T.att
 have e3:=T.vals
 refine Tf.bodyL0 (F:=f22) (ρ:=[some (.ref t),some x,none]) rfl rfl rfl rfl ?_
 walk_at "P"
 refine (c21 T hx hK (Nat.le_refl _)).use (by walk_at "m") ?_
 walk_at "P"
 rcases fnd_range x K 0 with e | ⟨j,e,hj,_⟩
 ·rw [e]
  walk_at "P"
  exact ⟨((getV_of K L x 0 T.len).1 e).symm,rfl⟩
 ·have e4 : fnd x K 0 = (j : Int):=by rw [e,Nat.zero_add]
  rw [e4]
  refine Br.dec (fun h=>by walk_at "m") (fun _=>?_)
  walk_at "P"
  refine W.getI e3 ((getV_of K L x 0 T.len).2 j e) ?_
  walk_at "P"
  exact ⟨rfl,rfl⟩
noncomputable def Pw (k f : Nat) (cl : List Nat) (as : List V) (H : List O) (v : V) (H1 : List O) : Prop:=Tf k f cl as H (fun a H'=>a = v∧H' = H1) (fun _ _=>False)
theorem Pw.use {k k' f : Nat} {E : PE} {H H1 : List O} {cl : List Nat} {as : List V} {v : V} {Q : PQ} (h : Pw k' f cl as H v H1) (hk : k' ≤ k) (hq : Q v H1) : Tf k f cl as H Q E:=Tf.use h hk (fun _ _ z=>by obtain ⟨rfl,rfl⟩:=z; exact hq) (fun _ _ z=>z.elim)
theorem c23_old {H : List O} {t d ks vs j : Nat} {nu mt : V} {K L : List V} {x v : V} (T : TT H t d ks vs nu mt K L) (hx : simpV x = true) (hK : ∀ y ∈ K,simpV y = true) {k : Nat} (hl : K.length + 54 ≤ k) (hj : fnd x K 0 = (j : Int)) : Pw k 23 [] [.ref t,x,v] H .none (H.set vs (.list (L.set j v))):=by
 have e1:=T.inst
 have e2:=T.att
 have e3:=T.vals
 have hjl : j < L.length:=by
  rcases fnd_range x K 0 with e | ⟨i,e,hi,_⟩
  ·walk_at "m"
  ·rw [← T.len]; walk_at "m"
 refine Tf.le (k:=K.length + 54) ?_ hl
 refine Tf.bodyL0 (F:=f23) (ρ:=[some (.ref t),some x,some v,none]) rfl rfl rfl rfl ?_
 walk_at "P"
 refine (c21 T hx hK (Nat.le_refl _)).use (by walk_at "m") ?_
 rw [hj]
 walk_at "P"
 refine W.setI e3 hjl ?_
 walk_at "P"
 exact ⟨rfl,rfl⟩
theorem c23_new {H : List O} {t d ks vs : Nat} {nu mt : V} {K L : List V} {x v : V} (T : TT H t d ks vs nu mt K L) (hx : simpV x = true) (hK : ∀ y ∈ K,simpV y = true) {k : Nat} (hl : K.length + 54 ≤ k) (hl2 : K.length ≤ 30) (hj : fnd x K 0 = -1) (hv : isN v = some false) : Pw k 23 [] [.ref t,x,v] H .none ((H.set ks (.list (K ++ [x]))).set vs (.list (L ++ [v]))):=by
 have e1:=T.inst
 have e2:=T.att
 have e3:=T.vals
 have e4:=T.keys
 have e5 : L.length ≤ 30:=by rw [← T.len]; exact hl2
 refine Tf.le (k:=K.length + 54) ?_ hl
 refine Tf.bodyL0 (F:=f23) (ρ:=[some (.ref t),some x,some v,none]) rfl rfl rfl rfl ?_
 walk_at "P"
 refine (c21 T hx hK (Nat.le_refl _)).use (by walk_at "m") ?_
 rw [hj]
 walk_at "P"
 refine W.ok (a:=.bool true) (H':=H) (by unfold cmpM; rw [hv]; rfl) ?_
 have g1 : ks ≠ t:=ne_getD e4 e1 rfl
 have g2 : ks ≠ d:=ne_getD e4 e2 rfl
 have g3:=T.ne
 walk_at "P"
 exact ⟨rfl,rfl⟩
theorem TT.set_old {H : List O} {t d ks vs j : Nat} {nu mt : V} {K L : List V} {v : V} (T : TT H t d ks vs nu mt K L) : TT (H.set vs (.list (L.set j v))) t d ks vs nu mt K (L.set j v):=
 ⟨get_ne (ne_getD T.vals T.inst rfl) T.inst,get_ne (ne_getD T.vals T.att rfl) T.att,get_ne T.ne.symm T.keys,get_eq T.vals,by rw [List.length_set]; exact T.len,T.ne⟩
theorem TT.set_new {H : List O} {t d ks vs : Nat} {nu mt : V} {K L : List V} {x v : V} (T : TT H t d ks vs nu mt K L) : TT ((H.set ks (.list (K ++ [x]))).set vs (.list (L ++ [v]))) t d ks vs nu mt (K ++ [x]) (L ++ [v]):=by
 have g3 : (H.set ks (.list (K ++ [x])))[vs]? = some (.list L):=get_ne T.ne T.vals
 exact ⟨get_ne (ne_getD T.vals T.inst rfl) (get_ne (ne_getD T.keys T.inst rfl) T.inst),get_ne (ne_getD T.vals T.att rfl) (get_ne (ne_getD T.keys T.att rfl) T.att),get_ne T.ne.symm (get_eq T.keys),get_eq g3,by rw [List.length_append,List.length_append,T.len]; rfl,T.ne⟩
noncomputable def ksN : Nat→Nat→List V
 | _,0=>[]
 | a,n + 1=>.int ((a + 1 : Nat) : Int) :: ksN (a + 1) n
theorem ksN_len : ∀ (n a : Nat),(ksN a n).length = n
 | 0,_=>rfl
 | n + 1,a=>by unfold ksN; rw [List.length_cons,ksN_len n (a + 1)]
theorem ksN_simp : ∀ (n a : Nat),∀ y ∈ ksN a n,simpV y = true
 | 0,_,y,h=>by cases h
 | n + 1,a,y,h=>by
  unfold ksN at h
  rcases List.mem_cons.mp h with rfl | h
  ·rfl
  ·exact ksN_simp n (a + 1) y h
theorem ksN_snoc : ∀ (n a : Nat),ksN a (n + 1) = ksN a n ++ [.int ((a + n + 1 : Nat) : Int)]
 | 0,a=>rfl
 | n + 1,a=>by
  rw [ksN,ksN_snoc n (a + 1)]
  rw [show ksN a (n + 1) = .int ((a + 1 : Nat) : Int) :: ksN (a + 1) n from rfl]
  rw [List.cons_append,show a + 1 + n + 1 = a + (n + 1) + 1 by walk_at "m"]
theorem fnd_ks : ∀ (n a i b : Nat),(i < n→fnd (.int ((a + i + 1 : Nat) : Int)) (ksN a n) b = ((b + i : Nat) : Int))∧(n ≤ i→fnd (.int ((a + i + 1 : Nat) : Int)) (ksN a n) b = -1)
 | 0,a,i,b=>⟨fun h=>absurd h (Nat.not_lt_zero _),fun _=>rfl⟩
 | n + 1,a,i,b=>by
  unfold ksN
  induction i with
  | zero=>exact ⟨fun _=>by rw [fnd,if_pos rfl]; rfl,fun h=>absurd h (Nat.not_succ_le_zero _)⟩
  | succ i=>
   have h0 : ¬ (V.int ((a + 1 : Nat) : Int) = V.int ((a + (i + 1) + 1 : Nat) : Int)):=by
    intro h; have:=V.int.inj h; walk_at "m"
   rw [fnd,if_neg h0]
   have e : a + (i + 1) + 1 = a + 1 + i + 1:=by walk_at "m"
   rw [e]
   have h1:=fnd_ks n (a + 1) i (b + 1)
   exact ⟨fun h=>by rw [h1.1 (Nat.lt_of_succ_lt_succ h)]; congr 1; walk_at "m",fun h=>h1.2 (Nat.le_of_succ_le_succ h)⟩
theorem getV_ks {L : List V} {i : Nat} (h : i < L.length) : getV (ksN 0 L.length) L (.int ((i + 1 : Nat) : Int)) = L[i]:=by
 have h1:=(fnd_ks L.length 0 i 0).1 h
 rw [Nat.zero_add] at h1
 have h2:=(getV_of (ksN 0 L.length) L (.int ((i + 1 : Nat) : Int)) 0 (ksN_len _ _)).2 i (by rw [h1,Nat.zero_add])
 rw [List.getElem?_eq_getElem h] at h2
 exact (Option.some.inj h2).symm
theorem getV_ks0 {L : List V} {i : Nat} (h : L.length ≤ i) : getV (ksN 0 L.length) L (.int ((i + 1 : Nat) : Int)) = .none:=by
 have h1:=(fnd_ks L.length 0 i 0).2 h
 rw [Nat.zero_add] at h1
 exact (getV_of (ksN 0 L.length) L (.int ((i + 1 : Nat) : Int)) 0 (ksN_len _ _)).1 h1
noncomputable abbrev TI (H : List O) (t d ks vs : Nat) (nu mt : V) (L : List V) : Prop:=TT H t d ks vs nu mt (ksN 0 L.length) L
theorem c22_ks {H : List O} {t d ks vs : Nat} {nu mt : V} {L : List V} {i : Nat} {z : Int} {v : V} (T : TI H t d ks vs nu mt L) {k : Nat} (hl : L.length + 50 ≤ k) (hz : z = ((i + 1 : Nat) : Int)) (h : L[i]? = some v) : Pu k 22 [] [.ref t,.int z] H v:=by
 subst hz
 have h2:=List.getElem?_eq_some_iff.mp h
 have h3:=c22 T (k:=k) (x:=.int ((i + 1 : Nat) : Int)) rfl (ksN_simp _ _) (by rw [ksN_len]; exact hl)
 rw [getV_ks h2.1,h2.2] at h3
 exact h3
theorem c22_ks0 {H : List O} {t d ks vs : Nat} {nu mt : V} {L : List V} {i : Nat} {z : Int} (T : TI H t d ks vs nu mt L) {k : Nat} (hl : L.length + 50 ≤ k) (hz : z = ((i + 1 : Nat) : Int)) (h : L.length ≤ i) : Pu k 22 [] [.ref t,.int z] H .none:=by
 subst hz
 have h3:=c22 T (k:=k) (x:=.int ((i + 1 : Nat) : Int)) rfl (ksN_simp _ _) (by rw [ksN_len]; exact hl)
 rw [getV_ks0 h] at h3
 exact h3
noncomputable def w24 : Mp.E:=.cmp .isnt (.meth (.loc 0) 23 [.bin .add (.loc 1) (.cst (.int 1))]) (.cst .none)
theorem l24 {H : List O} {t d ks vs : Nat} {nu mt : V} {L : List V} (T : TI H t d ks vs nu mt L) (hL : ∀ v ∈ L,isN v = some false) {E : PE} {Q : PF} : ∀ (r i : Nat),i + r = L.length→Q (.nxt,[some (.ref t),some (.int L.length)]) H→Twh (r + L.length + 64) [] [some (.ref t),some (.int i)] w24 [.augL 1 .add (.cst (.int 1))] H Q E
 | 0,i,hi,h=>by
  have e1:=T.inst
  have e2:=T.att
  have hi' : i = L.length:=hi
  subst hi'
  refine Twh.step ?_
  unfold w24
  walk_at "P"
  refine (c22_ks0 T (Nat.le_refl _) (i:=L.length) (by walk_at "m") (Nat.le_refl _)).use (by walk_at "m") ?_
  walk_at "P"
  exact h
 | r + 1,i,hi,h=>by
  have e1:=T.inst
  have e2:=T.att
  have ih:=l24 T hL (E:=E) (Q:=Q) r (i + 1) (by walk_at "m") h
  rw [show r + 1 + L.length + 64 = r + L.length + 64 + 1 by walk_at "m"]
  refine Twh.step ?_
  unfold w24
  walk_at "P"
  have hi2 : i < L.length:=by walk_at "m"
  refine (c22_ks T (Nat.le_refl _) (i:=i) (by walk_at "m") (List.getElem?_eq_getElem hi2)).use (by walk_at "m") ?_
  walk_at "P"
  refine W.ok (a:=.bool true) (H':=H) (by unfold cmpM; rw [hL _ (List.getElem_mem hi2)]; rfl) ?_
  walk_at "P"
  exact ih
theorem c24 {H : List O} {t d ks vs : Nat} {nu mt : V} {L : List V} (T : TI H t d ks vs nu mt L) (hL : ∀ v ∈ L,isN v = some false) : Pu (2 * L.length + 72) 24 [] [.ref t] H (.int L.length):=by
 refine Tf.bodyL0 (F:=f24) (ρ:=[some (.ref t),none]) rfl rfl rfl rfl ?_
 have hk : ∀ {Q : PF} {E : PE},Q (.nxt,[some (.ref t),some (.int L.length)]) H→Twh (2 * L.length + 68) [] [some (.ref t),some (.int 0)] w24 [.augL 1 .add (.cst (.int 1))] H Q E:=fun h=>⟨fun n hn=>(l24 T hL L.length 0 (Nat.zero_add _) h).run n (by walk_at "m")⟩
 iterate 5 (walk_at "p1")
 refine hk ?_
 walk_at "P"
 exact ⟨rfl,rfl⟩
noncomputable def limA : O:=.attrs [(5,.int 64),(6,.int 250),(7,.int 60),(8,.int 200),(9,.int 40),(10,.int 200),(11,.int 2000),(12,.int 50),(13,.int 1000000000),(14,.int 1000000)]
noncomputable def hostA (st : Int) (fr : Nat) (dp : Int) : O:=.attrs [(30,.ref 5),(31,.bytes [108,97,119]),(32,.ref 8),(13,.int st),(33,.int 0),(10,.ref fr),(29,.int dp),(34,.ref 11)]
structure HS (H : List O) (st dp : Int) (fr : Nat) (frs : List V) : Prop where
 h7 : H[7]? = some (.inst 5 6)
 h6 : H[6]? = some (hostA st fr dp)
 h5 : H[5]? = some (.inst 0 4)
 h4 : H[4]? = some limA
 hf : H[fr]? = some (.list frs)
structure Fr (w : List Nat) (H H' : List O) : Prop where
 le : H.length ≤ H'.length
 eq : ∀ (a : Nat) (o : O),H[a]? = some o→a ∉ w→H'[a]? = some o
theorem Fr.refl {w : List Nat} {H : List O} : Fr w H H:=⟨Nat.le_refl _,fun _ _ h _=>h⟩
theorem Fr.trans {w : List Nat} {H H1 H2 : List O} (h : Fr w H H1) (h2 : Fr w H1 H2) : Fr w H H2:=⟨Nat.le_trans h.le h2.le,fun a o e n=>h2.eq a o (h.eq a o e n) n⟩
theorem Fr.app {w : List Nat} {H H1 : List O} {x : O} (h : Fr w H H1) : Fr w H (H1 ++ [x]):=⟨by rw [List.length_append]; exact Nat.le_trans h.le (Nat.le_add_right _ _),fun a o e n=>get_app (h.eq a o e n)⟩
theorem Fr.set {w : List Nat} {H H1 : List O} {a : Nat} {x : O} (h : Fr w H H1) (ha : a ∈ w ∨ H.length ≤ a) : Fr w H (H1.set a x):=⟨by rw [List.length_set]; exact h.le,fun b o e n=>get_ne (fun he=>by
  subst he
  rcases ha with ha | ha
  ·exact n ha
  ·have:=get_lt e; walk_at "m") (h.eq b o e n)⟩
theorem Fr.sub {w w' : List Nat} {H H1 : List O} (h : Fr w H H1) (hs : ∀ a ∈ w,a ∈ w' ∨ H.length ≤ a) : Fr w' H H1:=⟨h.le,fun a o e n=>h.eq a o e (fun hm=>by
  rcases hs a hm with h | h
  ·exact n h
  ·have:=get_lt e; walk_at "m")⟩
theorem Fr.get {w : List Nat} {H H1 : List O} {a : Nat} {o : O} (h : Fr w H H1) (e : H[a]? = some o) (n : a ∉ w) : H1[a]? = some o:=h.eq a o e n
theorem HS.fr6 {H : List O} {st dp : Int} {fr : Nat} {frs : List V} (S : HS H st dp fr frs) : 6 ≠ fr:=ne_get S.h6 S.hf (by intro h; injection h)
theorem HS.set6 {H : List O} {st dp st' dp' : Int} {fr : Nat} {frs : List V} (S : HS H st dp fr frs) : HS (H.set 6 (hostA st' fr dp')) st' dp' fr frs:=
 ⟨get_ne (by decide) S.h7,get_eq S.h6,get_ne (by decide) S.h5,get_ne (by decide) S.h4,get_ne S.fr6 S.hf⟩
theorem HS.fr7 {H : List O} {st dp : Int} {fr : Nat} {frs : List V} (S : HS H st dp fr frs) : 7 ≠ fr:=ne_get S.h7 S.hf (by intro h; injection h)
theorem HS.fr5 {H : List O} {st dp : Int} {fr : Nat} {frs : List V} (S : HS H st dp fr frs) : 5 ≠ fr:=ne_get S.h5 S.hf (by intro h; injection h)
theorem HS.fr4 {H : List O} {st dp : Int} {fr : Nat} {frs : List V} (S : HS H st dp fr frs) : 4 ≠ fr:=ne_get S.h4 S.hf (by intro h; injection h)
theorem HS.setf {H : List O} {st dp : Int} {fr : Nat} {frs frs' : List V} (S : HS H st dp fr frs) : HS (H.set fr (.list frs')) st dp fr frs':=
 ⟨get_ne S.fr7.symm S.h7,get_ne S.fr6.symm S.h6,get_ne S.fr5.symm S.h5,get_ne S.fr4.symm S.h4,get_eq S.hf⟩
theorem HS.app {H : List O} {st dp : Int} {fr : Nat} {frs : List V} {x : O} (S : HS H st dp fr frs) : HS (H ++ [x]) st dp fr frs:=
 ⟨get_app S.h7,get_app S.h6,get_app S.h5,get_app S.h4,get_app S.hf⟩
theorem HS.fr_ {H H' : List O} {st dp : Int} {fr : Nat} {frs : List V} {w : List Nat} (S : HS H st dp fr frs) (F : Fr w H H') (h7 : 7 ∉ w) (h6 : 6 ∉ w) (h5 : 5 ∉ w) (h4 : 4 ∉ w) (hf : fr ∉ w) : HS H' st dp fr frs:=
 ⟨F.get S.h7 h7,F.get S.h6 h6,F.get S.h5 h5,F.get S.h4 h4,F.get S.hf hf⟩
theorem c33 {H : List O} {st dp : Int} {fr : Nat} {frs : List V} (S : HS H st dp fr frs) (hs : st < 1000000) : Pw 40 33 [] [.ref 7] H .none (H.set 6 (hostA (st + 1) fr dp)):=by
 have e7:=S.h7; have e6:=S.h6; have e5:=S.h5; have e4:=S.h4
 unfold hostA at e6
 unfold limA at e4
 refine Tf.bodyL0 (F:=f33) (ρ:=[some (.ref 7)]) rfl rfl rfl rfl ?_
 walk_at "P"
 refine Br.dec (fun h=>by walk_at "m") (fun _=>?_)
 walk_at "P"
 exact ⟨rfl,rfl⟩
theorem c34 {H : List O} {st dp : Int} {fr : Nat} {frs : List V} {i : Int} (S : HS H st dp fr frs) (hs : dp + i ≤ 820) : Pw 40 34 [] [.ref 7,.int i] H .none (H.set 6 (hostA st fr (dp + i))):=by
 have e7:=S.h7; have e6:=S.h6; have e5:=S.h5; have e4:=S.h4
 unfold hostA at e6
 unfold limA at e4
 refine Tf.bodyL0 (F:=f34) (ρ:=[some (.ref 7),some (.int i)]) rfl rfl rfl rfl ?_
 walk_at "P"
 refine Br.dec (fun h=>by walk_at "m") (fun _=>?_)
 walk_at "P"
 exact ⟨rfl,rfl⟩
theorem c30 {H : List O} {r d : Nat} {a b c : V} (e1 : H[r]? = some (.inst 4 d)) (e2 : H[d]? = some (.attrs [])) : Pw 40 30 [] [.ref r,a,b,c] H .none (H.set d (.attrs [(18,a),(26,b),(27,c),(28,.int 0),(29,.int 0)])):=by
 refine Tf.bodyL0 (F:=f30) (ρ:=[some (.ref r),some a,some b,some c]) rfl rfl rfl rfl ?_
 have hn : d ≠ r:=ne_getD e2 e1 rfl
 walk_at "P"
 refine ⟨rfl,?_⟩
 simp only [List.set_set]
 rfl
theorem Tc.use {k k' : Nat} {H : List O} {E E' : PE} {g : V} {as : List V} {Q Q' : PQ} (h : Tc k' g as H Q' E') (hk : k' ≤ k) (hq : ∀ a H',Q' a H'→Q a H') (he : ∀ e H',E' e H'→E e H') : Tc k g as H Q E:=⟨fun n hn=>(h.run n (Nat.le_trans hk hn)).mono hq he⟩
noncomputable def FrameAt (H : List O) (a : Nat) : Prop:=∃ fs,H[a + 3]? = some (.inst 4 (a + 2))∧H[a + 2]? = some (.attrs fs)∧lookA 28 fs = some (.int (-1))
theorem c45 {k k1 : Nat} {H : List O} {st dp : Int} {fr b bd : Nat} {frs : List V} {nu nm wk args : V} {Q : PQ} {E : PE} (S : HS H st dp fr frs) (hs : st < 1000000) (hd : dp + 8 ≤ 820) (hf : frs.length < 1000) (e1 : H[b]? = some (.inst 3 bd)) (e2 : H[bd]? = some (.attrs [(18,nu),(24,nm),(25,wk)])) (hk1 : 60 ≤ k1) (hk : k1 + 24 ≤ k)
  (hw : ∀ Hc,Fr [6,fr] H Hc→HS Hc (st + 1) (dp + 8) fr (frs ++ [.ref (H.length + 3)])→FrameAt Hc H.length→Tc k1 wk [.ref 7,args] Hc (fun v Hd=>∃ st',HS Hd st' (dp + 8) fr (frs ++ [.ref (H.length + 3)])∧Q v ((Hd.set fr (.list frs)).set 6 (hostA st' fr dp))) E) : Tf k 45 [] [.ref 7,.ref b,args] H Q E:=by
 refine Tf.le (k:=k1 + 24) ?_ hk
 refine Tf.bodyL0 (F:=f45) (ρ:=[some (.ref 7),some (.ref b),some args,none,none]) rfl rfl rfl rfl ?_
 have S1:=S.set6 (st':=st + 1) (dp':=dp)
 have S2:=S1.set6 (st':=st + 1) (dp':=dp + 8)
 have e7:=S.h7; have e6:=S.h6
 have e71:=S1.h7; have e61:=S1.h6
 unfold hostA at e6 e61
 walk_at "P"
 refine (c33 S hs).use (by walk_at "m") ?_
 walk_at "P"
 refine (c34 S1 hd).use (by walk_at "m") ?_
 walk_at "P"
 have F2 : Fr [6,fr] H ((H.set 6 (hostA (st + 1) fr dp)).set 6 (hostA (st + 1) fr (dp + 8))):=(Fr.refl.set (.inl (List.mem_cons_self))).set (.inl (List.mem_cons_self))
 have l2 : ((H.set 6 (hostA (st + 1) fr dp)).set 6 (hostA (st + 1) fr (dp + 8))).length = H.length:=by rw [List.length_set,List.length_set]
 clear e61 e71 S1 e7 e6
 generalize (H.set 6 (hostA (st + 1) fr dp)).set 6 (hostA (st + 1) fr (dp + 8)) = H2 at S2 F2 l2 ⊢
 have l2' : (H2 ++ [O.attrs []]).length = H.length + 1:=by rw [List.length_append,l2]; rfl
 have l3 : (H2 ++ [O.attrs []] ++ [O.list []]).length = H.length + 2:=by rw [List.length_append,l2']; rfl
 have F3 : Fr [6,fr] H (H2 ++ [O.attrs []] ++ [O.list []]):=F2.app.app
 have S3:=(S2.app (x:=.attrs [])).app (x:=.list [])
 rw [l2,l2']
 generalize H2 ++ [O.attrs []] ++ [O.list []] = H3 at l3 F3 S3 ⊢
 apply Tc.inst
 ·rfl
 ·rfl
 rw [l3]
 have l4 : (H3 ++ [O.attrs []]).length = H.length + 3:=by rw [List.length_append,l3]; rfl
 have g1 : (H3 ++ [O.attrs []] ++ [O.inst 4 (H.length + 2)])[H.length + 2 + 1]? = some (.inst 4 (H.length + 2)):=get_newL l4.symm
 have g2 : (H3 ++ [O.attrs []] ++ [O.inst 4 (H.length + 2)])[H.length + 2]? = some (.attrs []):=get_app (get_newL l3.symm)
 refine (c30 g1 g2).use (by walk_at "m") ?_
 refine ⟨rfl,?_⟩
 have F5 : Fr [6,fr] H ((H3 ++ [O.attrs []] ++ [O.inst 4 (H.length + 2)]).set (H.length + 2) (.attrs [(18,V.int (-1)),(26,.ref H.length),(27,.ref (H.length + 1)),(28,.int 0),(29,.int 0)])):=F3.app.app.set (.inr (Nat.le_add_right _ _))
 have S5 : HS ((H3 ++ [O.attrs []] ++ [O.inst 4 (H.length + 2)]).set (H.length + 2) (.attrs [(18,V.int (-1)),(26,.ref H.length),(27,.ref (H.length + 1)),(28,.int 0),(29,.int 0)])) (st + 1) (dp + 8) fr frs:=by
  refine HS.fr_ (w:=[H.length + 2]) ((S3.app (x:=.attrs [])).app (x:=.inst 4 (H.length + 2))) (Fr.refl.set (.inl List.mem_cons_self)) ?_ ?_ ?_ ?_ ?_
  ·have:=get_lt S.h7; simp only [List.mem_cons,List.not_mem_nil,or_false]; walk_at "m"
  ·have:=get_lt S.h7; simp only [List.mem_cons,List.not_mem_nil,or_false]; walk_at "m"
  ·have:=get_lt S.h7; simp only [List.mem_cons,List.not_mem_nil,or_false]; walk_at "m"
  ·have:=get_lt S.h7; simp only [List.mem_cons,List.not_mem_nil,or_false]; walk_at "m"
  ·have:=get_lt S.hf; simp only [List.mem_cons,List.not_mem_nil,or_false]; walk_at "m"
 have g3 : ((H3 ++ [O.attrs []] ++ [O.inst 4 (H.length + 2)]).set (H.length + 2) (.attrs [(18,V.int (-1)),(26,.ref H.length),(27,.ref (H.length + 1)),(28,.int 0),(29,.int 0)]))[H.length + 3]? = some (.inst 4 (H.length + 2)):=get_ne (by walk_at "m") g1
 have g4 : ((H3 ++ [O.attrs []] ++ [O.inst 4 (H.length + 2)]).set (H.length + 2) (.attrs [(18,V.int (-1)),(26,.ref H.length),(27,.ref (H.length + 1)),(28,.int 0),(29,.int 0)]))[H.length + 2]? = some (.attrs [(18,V.int (-1)),(26,.ref H.length),(27,.ref (H.length + 1)),(28,.int 0),(29,.int 0)]):=get_eq g2
 generalize (H3 ++ [O.attrs []] ++ [O.inst 4 (H.length + 2)]).set (H.length + 2) (.attrs [(18,V.int (-1)),(26,.ref H.length),(27,.ref (H.length + 1)),(28,.int 0),(29,.int 0)]) = H5 at F5 S5 g3 g4 ⊢
 clear F3 S3 F2 S2 g1 g2 l4
 have e7:=S5.h7; have e6:=S5.h6
 unfold hostA at e6
 have n1 : H.length + 2 ≠ 7:=by have:=get_lt S.h7; walk_at "m"
 have n2 : H.length + 2 ≠ 6:=by have:=get_lt S.h7; walk_at "m"
 have n3 : H.length + 2 ≠ H.length + 3:=by walk_at "m"
 have n4 : H.length + 2 ≠ fr:=by have:=get_lt S.hf; walk_at "m"
 have ef:=S5.hf
 have n6' : fr ≠ H.length + 3:=by have:=get_lt S.hf; walk_at "m"
 refine (?_ : Tas _ _ _ (.ref (H.length + 3)) _ _ _ _)
 walk_at "P"
 generalize hHc : List.set (List.set (List.set (H5 ++ [_]) (H.length + 2) _) (H.length + 2) _) fr _ = Hc
 have Fc : Fr [6,fr] H Hc:=by
  rw [← hHc]
  exact ((F5.app.set (.inr (Nat.le_add_right _ _))).set (.inr (Nat.le_add_right _ _))).set (.inl (List.mem_cons_of_mem _ List.mem_cons_self))
 have Sc : HS Hc (st + 1) (dp + 8) fr (frs ++ [.ref (H.length + 3)]):=by
  rw [← hHc]
  refine HS.setf (frs:=frs) (HS.fr_ (w:=[H.length + 2]) (S5.app (x:=_)) ((Fr.refl.set (.inl List.mem_cons_self)).set (.inl List.mem_cons_self)) ?_ ?_ ?_ ?_ ?_)
  ·have:=get_lt S.h7; simp only [List.mem_cons,List.not_mem_nil,or_false]; walk_at "m"
  ·have:=get_lt S.h7; simp only [List.mem_cons,List.not_mem_nil,or_false]; walk_at "m"
  ·have:=get_lt S.h7; simp only [List.mem_cons,List.not_mem_nil,or_false]; walk_at "m"
  ·have:=get_lt S.h7; simp only [List.mem_cons,List.not_mem_nil,or_false]; walk_at "m"
  ·have:=get_lt S.hf; simp only [List.mem_cons,List.not_mem_nil,or_false]; walk_at "m"
 have Cc : FrameAt Hc H.length:=by
  refine in1_3 [(18,.int (-1)),(26,.ref H.length),(27,.ref (H.length + 1)),(28,.int (-1)),(29,.int (dp + 8))] ?_ ?_ rfl
  ·rw [← hHc]
   exact get_ne n6' (get_ne n3 (get_ne n3 (get_app g3)))
  ·rw [← hHc]
   exact get_ne n4.symm (get_eq (get_eq (get_app g4)))
 clear hHc
 have m1 : b ∉ [6,fr]:=by
  have:=ne_get e1 S.h6 (by intro h; injection h)
  have:=ne_get e1 S.hf (by intro h; injection h)
  simp only [List.mem_cons,List.not_mem_nil,or_false]; walk_at "m"
 have m2 : bd ∉ [6,fr]:=by
  have:=ne_get e2 S.h6 (by unfold hostA; intro h; cases h)
  have:=ne_get e2 S.hf (by intro h; injection h)
  simp only [List.mem_cons,List.not_mem_nil,or_false]; walk_at "m"
 have x1:=Fc.get e1 m1
 have x2:=Fc.get e2 m2
 walk_at "P"
 refine (hw Hc Fc Sc Cc).use (by walk_at "m") (fun v Hd hq=>?_) (fun _ _ z=>z)
 (refine ex1_2 hq fun st' Sd z1q=>?_; clear hq; revert z1q; intro hq)
 have y7:=Sd.h7; have y6:=Sd.h6; have yf:=Sd.hf; have yn:=Sd.fr6; have yn7:=Sd.fr7
 unfold hostA at y6
 walk_at "P"
 have e8 : dp + 8 - 8 = dp:=by walk_at "m"
 rw [show ∀ X : List O,X.set 6 (O.attrs (putA 29 (V.int (dp + 8 - 8)) [(30,V.ref 5),(31,V.bytes [108,97,119]),(32,V.ref 8),(13,V.int st'),(33,V.int 0),(10,V.ref fr),(29,V.int (dp + 8)),(34,V.ref 11)])) = X.set 6 (hostA st' fr dp) from fun X=>by rw [e8]; rfl]
 exact hq
noncomputable def CB (k1 : Nat) (H : List O) (st dp : Int) (fr : Nat) (frs : List V) (wk args : V) (Q : PQ) (E : PE) : Prop:=∀ Hc,Fr [6,fr] H Hc→HS Hc (st + 1) (dp + 8) fr (frs ++ [.ref (H.length + 3)])→FrameAt Hc H.length→Tc k1 wk [.ref 7,args] Hc (fun v Hd=>∃ st',HS Hd st' (dp + 8) fr (frs ++ [.ref (H.length + 3)])∧Q v ((Hd.set fr (.list frs)).set 6 (hostA st' fr dp))) E
theorem c44 {k k1 : Nat} {H : List O} {st dp : Int} {fr b bd : Nat} {frs : List V} {nu nm wk args l : V} {Q : PQ} {E : PE} (S : HS H st dp fr frs) (hs : st < 1000000) (hd : dp + 8 ≤ 820) (hf : frs.length < 1000) (e1 : H[b]? = some (.inst 3 bd)) (e2 : H[bd]? = some (.attrs [(18,nu),(24,nm),(25,wk)])) (hk1 : 60 ≤ k1) (hk : k1 + 34 ≤ k) (hw : CB k1 H st dp fr frs wk args Q E) : Tf k 44 [] [.ref 7,.ref b,args,l] H Q E:=by
 refine Tf.le (k:=k1 + 34) ?_ hk
 have e7:=S.h7; have e6:=S.h6
 unfold hostA at e6
 refine Tf.bodyL0 (F:=f44) (ρ:=[some (.ref 7),some (.ref b),some args,some l,none]) rfl rfl rfl rfl ?_
 walk_at "P"
 refine c45 S hs hd hf e1 e2 (k1:=k1) hk1 (by walk_at "m") (fun Hc h1 h2 h3=>(hw Hc h1 h2 h3).use (by walk_at "m") (fun v Hd h=>?_) (fun _ _ z=>z))
 (refine ex1_2 h fun st' Sd q=>?_; clear h)
 refine in1_2 st' Sd ?_
 walk_at "P"
 exact q
theorem c43 {k k1 : Nat} {H : List O} {st dp : Int} {fr b bd : Nat} {frs : List V} {nu nm wk args l : V} {Q : PQ} {E : PE} (S : HS H st dp fr frs) (hs : st < 1000000) (hd : dp + 8 ≤ 820) (hf : frs.length < 1000) (e1 : H[b]? = some (.inst 3 bd)) (e2 : H[bd]? = some (.attrs [(18,nu),(24,nm),(25,wk)])) (hk1 : 60 ≤ k1) (hk : k1 + 42 ≤ k) (hw : CB k1 H st dp fr frs wk args Q E) : Tf k 43 [] [.ref 7,.ref b,args,l] H Q E:=by
 refine Tf.le (k:=k1 + 42) ?_ hk
 have e7:=S.h7; have e6:=S.h6
 unfold hostA at e6
 refine Tf.bodyL0 (F:=f43) (ρ:=[some (.ref 7),some (.ref b),some args,some l]) rfl rfl rfl rfl ?_
 walk_at "P"
 refine c44 S hs hd hf e1 e2 (k1:=k1) hk1 (by walk_at "m") (fun Hc h1 h2 h3=>(hw Hc h1 h2 h3).use (by walk_at "m") (fun v Hd h=>?_) (fun _ _ z=>z))
 (refine ex1_2 h fun st' Sd q=>?_; clear h)
 refine in1_2 st' Sd ?_
 walk_at "P"
 exact q
theorem c41 {k k1 : Nat} {H : List O} {st dp : Int} {fr b bd : Nat} {frs : List V} {nu nm wk args : V} {Q : PQ} {E : PE} (S : HS H st dp fr frs) (hs : st < 1000000) (hd : dp + 8 ≤ 820) (hf : frs.length < 1000) (e1 : H[b]? = some (.inst 3 bd)) (e2 : H[bd]? = some (.attrs [(18,nu),(24,nm),(25,wk)])) (hk1 : 60 ≤ k1) (hk : k1 + 52 ≤ k) (hw : CB k1 H st dp fr frs wk args (fun v H'=>∃ r x,v = .ref r∧H'[r]? = some (.list [x])∧Q x H') E) : Tf k 41 [] [.ref 7,.ref b,args] H Q E:=by
 refine Tf.le (k:=k1 + 52) ?_ hk
 have e7:=S.h7; have e6:=S.h6
 unfold hostA at e6
 refine Tf.bodyL0 (F:=f41) (ρ:=[some (.ref 7),some (.ref b),some args,none]) rfl rfl rfl rfl ?_
 walk_at "P"
 refine c43 S hs hd hf e1 e2 (k1:=k1) hk1 (by walk_at "m") (fun Hc h1 h2 h3=>(hw Hc h1 h2 h3).use (by walk_at "m") (fun v Hd h=>?_) (fun _ _ z=>z))
 obtain ⟨st',Sd,r,x,rfl,q1,q2⟩:=h
 refine in1_2 st' Sd ?_
 walk_at "P"
 refine W.getI (i:=0) q1 rfl ?_
 walk_at "P"
 exact q2
theorem c29 {H : List O} {r d : Nat} (e : H[r]? = some (.inst 3 d)) : Pu 40 29 [] [.ref r] H (.bool true):=by
 refine Tf.bodyL0 (F:=f29) (ρ:=[some (.ref r)]) rfl rfl rfl rfl ?_
 walk_at "P"
 refine (c27_fn e).use (by walk_at "m") ?_
 walk_at "P"
 exact ⟨rfl,rfl⟩
theorem c006 {H : List O} {b : Bool} : Pu 20 6 [] [.bool b] H (.bool (!b)):=Pu.of_eq fun m=>by induction b <;> rfl
theorem c51 {H : List O} {a i : Nat} {z : Int} {xs : List V} {v : V} (e : H[a]? = some (.list xs)) (hz : z = ((i + 1 : Nat) : Int)) (hv : xs[i]? = some v) : Pu 40 51 [] [.ref a,.int z] H v:=by
 subst hz
 have hi:=(List.getElem?_eq_some_iff.mp hv).1
 refine Tf.bodyL0 (F:=f51) (ρ:=[some (.ref a),some (.int ((i + 1 : Nat) : Int))]) rfl rfl rfl rfl ?_
 walk_at "P"
 refine Br.dec (fun _=>?_) (fun h=>by walk_at "m")
 walk_at "P"
 have e1 : ((i + 1 : Nat) : Int) - 1 = (i : Int):=by walk_at "m"
 rw [e1]
 refine W.getI e hv ?_
 walk_at "P"
 exact ⟨rfl,rfl⟩
theorem c58 {H : List O} {a i t d : Nat} {z : Int} {xs : List V} {nm h : V} (e : H[a]? = some (.list xs)) (hz : z = ((i + 1 : Nat) : Int)) (hv : xs[i]? = some (.ref t)) (e1 : H[t]? = some (.inst 2 d)) : Pu 60 58 [] [h,nm,.ref a,.int z] H (.ref t):=by
 refine Tf.bodyL0 (F:=f58) (ρ:=[some h,some nm,some (.ref a),some (.int z),none]) rfl rfl rfl rfl ?_
 walk_at "P"
 refine (c51 e hz hv).use (by walk_at "m") ?_
 walk_at "P"
 exact ⟨rfl,rfl⟩
theorem TT.fr_ {H H' : List O} {t d ks vs : Nat} {nu mt : V} {K L : List V} {w : List Nat} (T : TT H t d ks vs nu mt K L) (F : Fr w H H') (h1 : t ∉ w) (h2 : d ∉ w) (h3 : ks ∉ w) (h4 : vs ∉ w) : TT H' t d ks vs nu mt K L:=
 ⟨F.get T.inst h1,F.get T.att h2,F.get T.keys h3,F.get T.vals h4,T.len,T.ne⟩
theorem TT.app {H : List O} {t d ks vs : Nat} {nu mt : V} {K L : List V} {x : O} (T : TT H t d ks vs nu mt K L) : TT (H ++ [x]) t d ks vs nu mt K L:=
 ⟨get_app T.inst,get_app T.att,get_app T.keys,get_app T.vals,T.len,T.ne⟩
theorem TT.set_ {H : List O} {t d ks vs a : Nat} {nu mt : V} {K L : List V} {x : O} (T : TT H t d ks vs nu mt K L) (h1 : a ≠ t) (h2 : a ≠ d) (h3 : a ≠ ks) (h4 : a ≠ vs) : TT (H.set a x) t d ks vs nu mt K L:=
 ⟨get_ne h1 T.inst,get_ne h2 T.att,get_ne h3 T.keys,get_ne h4 T.vals,T.len,T.ne⟩
noncomputable def e101 : Mp.E:=.meth (.cel 0) 23 [.bin .add (.loc 1) (.cst (.int 1))]
theorem l101 {c acc t d ks vs : Nat} {nu mt : V} {L : List V} (hl : L.length ≤ 30) {E : PE} {Q : Unit→List O→Prop} (n1 : acc ≠ t) (n2 : acc ≠ d) (n3 : acc ≠ ks) (n4 : acc ≠ vs) (n5 : acc ≠ c) : ∀ (r i : Nat) (X : List O) (a b : Option V),i + r = L.length→X[acc]? = some (.list (L.take i))→TI X t d ks vs nu mt L→X[c]? = some (.cell (some (.ref t)))→Q () (X.set acc (.list L))→Tco (r + L.length + 60) [c] [a,b] e101 none 1 (.rng i r) acc X Q E
 | 0,i,X,a,b,hi,ea,T,ec,h=>by
  have e0 : X.set acc (.list L) = X:=by
   have : L.take i = L:=List.take_of_length_le (by walk_at "m")
   rw [this] at ea
   obtain ⟨hlt,e⟩:=List.getElem?_eq_some_iff.mp ea
   rw [← e,List.set_getElem_self]
  rw [e0] at h
  exact Tco.done rfl h
 | r + 1,i,X,a,b,hi,ea,T,ec,h=>by
  have hi2 : i < L.length:=by walk_at "m"
  have e1:=T.inst
  have e2:=T.att
  have ih:=l101 (c:=c) hl (E:=E) (Q:=Q) n1 n2 n3 n4 n5 r (i + 1) (X.set acc (.list (L.take i ++ [L[i]]))) a (some (.int i)) (by walk_at "m") (by rw [get_eq ea,List.take_append_getElem hi2]) (T.set_ n1 n2 n3 n4) (get_ne n5 ec) (by rw [List.set_set]; exact h)
  rw [show r + 1 + L.length + 60 = r + L.length + 60 + 1 by walk_at "m"]
  refine Tco.step (k:=r + L.length + 60) (v:=.int i) (s1:=.rng (i + 1) r) rfl ?_
  unfold e101
  walk_at "P"
  refine (c22_ks T (Nat.le_refl _) (i:=i) (by walk_at "m") (List.getElem?_eq_getElem hi2)).use (by walk_at "m") ?_
  refine in1_3 _ ea ?_ ih
  rw [List.length_take]; walk_at "m"
theorem c101 {H : List O} {t d ks vs : Nat} {nu mt : V} {L : List V} {z : Int} (T : TI H t d ks vs nu mt L) (hl : L.length ≤ 30) (hz : z = (L.length : Int)) : Pw (2 * L.length + 66) 101 [] [.ref t,.int z] H (.ref (H.length + 1)) (H ++ [.cell (some (.ref t))] ++ [.list L]):=by
 subst hz
 refine Tf.bodyL (F:=f101) (ρ:=[some (.int L.length)]) (cv:=[some (.ref t)]) rfl rfl rfl ?_
 refine (?_ : Tss _ [H.length] _ _ (H ++ [.cell (some (.ref t))]) _ _)
 refine Tss.cons (Ts.ret ?_)
 refine Te.comp (l:=[H.length]) rfl (Tsrc.rng1 ?_)
 walk_at "P"
 refine ⟨by rw [Int.natAbs_natCast]; walk_at "m",?_⟩
 have l1 : (H ++ [O.cell (some (.ref t))]).length = H.length + 1:=by rw [List.length_append]; rfl
 have h1:=get_lt T.inst
 have h2:=get_lt T.att
 have h3:=get_lt T.keys
 have h4:=get_lt T.vals
 rw [l1]
 have hq:=l101 (c:=H.length) (acc:=H.length + 1) hl (E:=fun _ _=>False) (Q:=fun _ H2=>Sq (fun ρ1 H1=>Tss (2 * L.length + 64) [H.length] ρ1 [] H1 (Rq fun a H'=>a = .ref (H.length + 1)∧H' = H ++ [.cell (some (.ref t))] ++ [.list L]) (fun _ _=>False)) (Rq fun a H'=>a = .ref (H.length + 1)∧H' = H ++ [.cell (some (.ref t))] ++ [.list L]) (.ret (.ref (H.length + 1)),[some (.int L.length)]) H2) (by walk_at "m") (by walk_at "m") (by walk_at "m") (by walk_at "m") (by walk_at "m") L.length 0 (H ++ [.cell (some (.ref t))] ++ [.list []]) none none (Nat.zero_add _) (by rw [List.take_zero]; exact get_newL l1.symm) T.app.app (get_app get_new) ?_
 ·exact ⟨fun n hn=>hq.run n (by walk_at "m")⟩
 ·refine Sq.ret (Rq.ret ⟨rfl,?_⟩)
  rw [List.set_append_right _ _ (by rw [l1]; exact Nat.le_refl _),l1,Nat.sub_self]; rfl
noncomputable def boom (d : Nat) (t : List Nat) (l : Nat) : O:=.attrs [(15,.bytes t),(16,.ref l),(17,.bool false)]
theorem c4 {H : List O} {r : Nat} {t : List Nat} (e : H[r]? = some (.exc 1 none false)) : Pw 40 4 [] [.ref r,.bytes t] H .none ((((H ++ [O.attrs [(15,.bytes t)]]).set r (.exc 1 (some H.length) false)) ++ [O.list []]).set H.length (boom 0 t (H.length + 1))):=by
 have hr:=get_lt e
 refine Tf.bodyL0 (F:=f4) (ρ:=[some (.ref r),some (.bytes t)]) rfl rfl rfl rfl ?_
 walk_at "P"
 refine W.setAx0 e rfl ?_
 have n1 : r ≠ H.length:=by walk_at "m"
 have n2 : H.length ≠ r:=by walk_at "m"
 have g1 : ((H ++ [O.attrs [(15,.bytes t)]]).set r (.exc 1 (some H.length) false))[r]? = some (.exc 1 (some H.length) false):=get_eq (get_app e)
 have g2 : ((H ++ [O.attrs [(15,.bytes t)]]).set r (.exc 1 (some H.length) false))[H.length]? = some (.attrs [(15,.bytes t)]):=get_ne n1 get_new
 have l1 : ((H ++ [O.attrs [(15,.bytes t)]]).set r (.exc 1 (some H.length) false)).length = H.length + 1:=by rw [List.length_set,List.length_append]; rfl
 generalize (H ++ [O.attrs [(15,V.bytes t)]]).set r (.exc 1 (some H.length) false) = X at g1 g2 l1 ⊢
 walk_at "P"
 rw [l1]
 refine W.setAx (get_app g1) (get_app g2) rfl (Nat.le_of_ble_eq_true rfl) ?_
 walk_at "P"
 refine W.setAx (get_ne n2 (get_app g1)) (get_eq (get_app g2)) rfl (Nat.le_of_ble_eq_true rfl) ?_
 walk_at "P"
 refine ⟨rfl,?_⟩
 rw [List.set_set]
 rfl
theorem c102 {H : List O} {sn t d ks vs ar : Nat} {nu mt : V} {L S : List V} {m lf : Int} {a b : Int} {Q : PQ} {E : PE} (T : TI H t d ks vs nu mt L) (hl : L.length ≤ 30) (hm : m = (L.length : Int)) (hs : H[sn]? = some (.list S)) (hsl : S.length ≤ 100) (ha : H[ar]? = some (.list [.int a,.int b])) (n4 : sn ≠ ar)
  (hQ : ∀ H' r,((S.length + 1 : Nat) : Int) ≤ lf→Fr [sn] H H'→H'[sn]? = some (.list (S ++ [.ref (H.length + 1)]))→H'[H.length + 1]? = some (.list L)→H'[r]? = some (.list [.bool (decide (a < b))])→H.length + 1 < r→Q (.ref r) H')
  (hE : ∀ H' r d l,lf < ((S.length + 1 : Nat) : Int)→Fr [sn] H H'→H'[sn]? = some (.list (S ++ [.ref (H.length + 1)]))→H'[H.length + 1]? = some (.list L)→H'[r]? = some (.exc 1 (some d) true)→H'[d]? = some (boom 0 [101,110,111,117,103,104] l)→E r H') : Tf (2 * L.length + 82) 102 [] [.ref sn,.ref t,.int m,.int lf,.ref ar] H Q E:=by
 have hsn:=get_lt hs
 refine Tf.bodyL0 (F:=f102) (ρ:=[some (.ref sn),some (.ref t),some (.int m),some (.int lf),some (.ref ar)]) rfl rfl rfl rfl ?_
 walk_at "P"
 refine (c101 T hl hm).use (by walk_at "m") ?_
 have l1 : (H ++ [O.cell (some (.ref t))]).length = H.length + 1:=by rw [List.length_append]; rfl
 walk_at "P"
 have F1 : Fr [sn] H ((H ++ [O.cell (some (.ref t))] ++ [O.list L]).set sn (.list (S ++ [.ref (H.length + 1)]))):=Fr.refl.app.app.set (.inl List.mem_cons_self)
 have l2 : ((H ++ [O.cell (some (.ref t))] ++ [O.list L]).set sn (.list (S ++ [.ref (H.length + 1)]))).length = H.length + 2:=by rw [List.length_set,List.length_append,l1]; rfl
 have g1 : ((H ++ [O.cell (some (.ref t))] ++ [O.list L]).set sn (.list (S ++ [.ref (H.length + 1)])))[sn]? = some (.list (S ++ [.ref (H.length + 1)])):=get_eq (get_app (get_app hs))
 have g2 : ((H ++ [O.cell (some (.ref t))] ++ [O.list L]).set sn (.list (S ++ [.ref (H.length + 1)])))[H.length + 1]? = some (.list L):=get_ne (by walk_at "m") (get_newL l1.symm)
 have g3 : ((H ++ [O.cell (some (.ref t))] ++ [O.list L]).set sn (.list (S ++ [.ref (H.length + 1)])))[ar]? = some (.list [.int a,.int b]):=get_ne n4 (get_app (get_app ha))
 generalize (H ++ [O.cell (some (V.ref t))] ++ [O.list L]).set sn (.list (S ++ [.ref (H.length + 1)])) = X at F1 l2 g1 g2 g3 ⊢
 refine Br.dec (fun hp=>?_) (fun hp=>?_)
 ·have hp' : lf < ((S.length + 1 : Nat) : Int):=by rw [List.length_append] at hp; exact hp
  refine Tss.cons (Ts.raise ?_)
  walk_at "P"
  apply Tc.exc
  ·rfl
  ·rfl
  rw [show iniT 1 = 4 from rfl]
  have h4:=c4 (H:=X ++ [.exc 1 none false]) (r:=X.length) (t:=[101,110,111,117,103,104]) get_new
  refine Pw.use h4 (Nat.le_of_ble_eq_true rfl) ?_
  refine ⟨rfl,?_⟩
  have l3 : (X ++ [O.exc 1 none false]).length = X.length + 1:=by rw [List.length_append]; rfl
  rw [l3]
  have l4 : ((X ++ [O.exc 1 none false] ++ [O.attrs [(15,.bytes [101,110,111,117,103,104])]]).set X.length (.exc 1 (some (X.length + 1)) false)).length = X.length + 2:=by rw [List.length_set,List.length_append,l3]; rfl
  have y1 : ((X ++ [O.exc 1 none false] ++ [O.attrs [(15,.bytes [101,110,111,117,103,104])]]).set X.length (.exc 1 (some (X.length + 1)) false))[X.length]? = some (.exc 1 (some (X.length + 1)) false):=get_eq (get_app get_new)
  have y2 : ((X ++ [O.exc 1 none false] ++ [O.attrs [(15,.bytes [101,110,111,117,103,104])]]).set X.length (.exc 1 (some (X.length + 1)) false))[X.length + 1]? = some (O.attrs [(15,.bytes [101,110,111,117,103,104])]):=get_ne (by walk_at "m") (get_newL l3.symm)
  have F2 : Fr [] X ((X ++ [O.exc 1 none false] ++ [O.attrs [(15,.bytes [101,110,111,117,103,104])]]).set X.length (.exc 1 (some (X.length + 1)) false)):=Fr.refl.app.app.set (.inr (Nat.le_refl _))
  generalize (X ++ [O.exc 1 none false] ++ [O.attrs [(15,V.bytes [101,110,111,117,103,104])]]).set X.length (.exc 1 (some (X.length + 1)) false) = Y at l4 y1 y2 F2 ⊢
  refine ⟨_,_,rfl,get_ne (by walk_at "m") (get_app y1),?_⟩
  have F3 : Fr [] X (((Y ++ [O.list []]).set (X.length + 1) (boom 0 [101,110,111,117,103,104] (X.length + 1 + 1))).set X.length (.exc 1 (some (X.length + 1)) true)):=(F2.app.set (.inr (by walk_at "m"))).set (.inr (Nat.le_refl _))
  refine hE _ _ (X.length + 1) (X.length + 1 + 1) hp' (F1.trans (F3.sub (fun _ h=>by cases h))) (F3.get g1 (by intro h; cases h)) (F3.get g2 (by intro h; cases h)) (get_eq (get_ne (by walk_at "m") (get_app y1))) (get_ne (by walk_at "m") (get_eq (get_app y2)))
 ·have hp' : ((S.length + 1 : Nat) : Int) ≤ lf:=by
   rw [List.length_append] at hp
   have : ((S.length + [V.ref (H.length + 1)].length : Nat) : Int) ≤ lf:=by walk_at "m"
   exact this
  walk_at "P"
  refine W.getI (i:=0) g3 rfl ?_
  walk_at "P"
  refine W.getI (i:=1) g3 rfl ?_
  walk_at "P"
  have F4 : Fr [sn] H (X ++ [.list [.bool (decide (a < b))]]):=F1.app
  exact hQ _ _ hp' F4 (get_app g1) (get_app g2) get_new (by walk_at "m")
structure SP where
 X0 : List O
 t : Nat
 d : Nat
 ks : Nat
 vs : Nat
 sn : Nat
 fr : Nat
 ob : Nat
 obd : Nat
 oc : Nat
 c0 : Nat
 c1 : Nat
 c2 : Nat
 c3 : Nat
 nu : V
 mt : V
 nu2 : V
 nm2 : V
 rows : List Int
 lf : Int
noncomputable def SP.w (p : SP) : List Nat:=[6,p.fr,p.sn,p.vs]
theorem SP.mf (p : SP) : p.fr ∈ p.w:=List.mem_cons_of_mem _ List.mem_cons_self
theorem SP.ms (p : SP) : p.sn ∈ p.w:=List.mem_cons_of_mem _ (List.mem_cons_of_mem _ List.mem_cons_self)
theorem SP.mv (p : SP) : p.vs ∈ p.w:=List.mem_cons_of_mem _ (List.mem_cons_of_mem _ (List.mem_cons_of_mem _ List.mem_cons_self))
structure SPok (p : SP) : Prop where
 inst : p.X0[p.t]? = some (.inst 2 p.d)
 att : p.X0[p.d]? = some (.attrs [(18,p.nu),(19,.ref p.ks),(20,.ref p.vs),(21,p.mt)])
 keys : p.X0[p.ks]? = some (.list (ksN 0 p.rows.length))
 b1 : p.X0[p.ob]? = some (.inst 3 p.obd)
 b2 : p.X0[p.obd]? = some (.attrs [(18,p.nu2),(24,p.nm2),(25,.ref p.oc)])
 b3 : p.X0[p.oc]? = some (.clo 108 [p.c0,p.c1,p.c2,p.c3])
 k0 : p.X0[p.c0]? = some (.cell (some (.int p.lf)))
 k1 : p.X0[p.c1]? = some (.cell (some (.int p.rows.length)))
 k2 : p.X0[p.c2]? = some (.cell (some (.ref p.sn)))
 k3 : p.X0[p.c3]? = some (.cell (some (.ref p.t)))
 lsn : ∃ S,p.X0[p.sn]? = some (.list S)
 lvs : ∃ S,p.X0[p.vs]? = some (.list S)
 lfr : ∃ S,p.X0[p.fr]? = some (.list S)
 l6 : ∃ a b c,p.X0[6]? = some (hostA a b c)
 h7 : p.X0[7]? = some (.inst 5 6)
 h5 : p.X0[5]? = some (.inst 0 4)
 h4 : p.X0[4]? = some limA
 n1 : p.ks ≠ p.vs
 n2 : p.ks ≠ p.sn
 n3 : p.ks ≠ p.fr
 n4 : p.sn ≠ p.vs
 n5 : p.sn ≠ p.fr
 n6 : p.vs ≠ p.fr
 len : p.rows.length ≤ 6
theorem SPok.out {p : SP} (P : SPok p) {a : Nat} {o : O} (e : p.X0[a]? = some o) (h1 : ∀ l,o ≠ .list l) (h2 : ∀ a b c,o ≠ hostA a b c) : a ∉ p.w:=by
 obtain ⟨S1,e1⟩:=P.lsn
 obtain ⟨S2,e2⟩:=P.lvs
 obtain ⟨S3,e3⟩:=P.lfr
 refine ex3_1 P.l6 fun x y z e4=>?_
 have q1:=ne_get e e1 (h1 _)
 have q2:=ne_get e e2 (h1 _)
 have q3:=ne_get e e3 (h1 _)
 have q4:=ne_get e e4 (h2 _ _ _)
 simp only [SP.w,List.mem_cons,List.not_mem_nil,or_false]
 walk_at "m"
theorem SPok.lt {p : SP} (P : SPok p) {a : Nat} (h : a ∈ p.w) : a < p.X0.length:=by
 obtain ⟨S1,e1⟩:=P.lsn
 obtain ⟨S2,e2⟩:=P.lvs
 obtain ⟨S3,e3⟩:=P.lfr
 refine ex3_1 P.l6 fun x y z e4=>?_
 simp only [SP.w,List.mem_cons,List.not_mem_nil,or_false] at h
 rcases h with rfl | rfl | rfl | rfl
 ·exact get_lt e4
 ·exact get_lt e3
 ·exact get_lt e1
 ·exact get_lt e2
structure Inv (p : SP) (st dp : Int) (frs : List V) (X : List O) (L : List Int) (S : List V) : Prop where
 fr : Fr p.w p.X0 X
 hs : HS X st dp p.fr frs
 sn : X[p.sn]? = some (.list S)
 vs : X[p.vs]? = some (.list (L.map V.int))
 perm : L.Perm p.rows
 ok : ∀ v ∈ S,∃ r l,v = .ref r∧X[r]? = some (.list (l.map V.int))∧List.Perm l p.rows∧p.X0.length ≤ r
theorem Inv.len {p : SP} {st dp : Int} {frs : List V} {X : List O} {L : List Int} {S : List V} (I : Inv p st dp frs X L S) : L.length = p.rows.length:=I.perm.length_eq
theorem Inv.tab {p : SP} (P : SPok p) {st dp : Int} {frs : List V} {X : List O} {L : List Int} {S : List V} (I : Inv p st dp frs X L S) : TI X p.t p.d p.ks p.vs p.nu p.mt (L.map V.int):=by
 have hl : (L.map V.int).length = p.rows.length:=by rw [List.length_map]; exact I.len
 refine ⟨I.fr.get P.inst (P.out P.inst (by intro l h; cases h) (by intro a b c h; cases h)),I.fr.get P.att (P.out P.att (by intro l h; cases h) (by intro a b c h; cases h)),?_,I.vs,ksN_len _ _,P.n1⟩
 rw [hl]
 refine I.fr.get P.keys ?_
 have q4 : p.ks ≠ 6:=by
  refine ex3_1 P.l6 fun x y z e4=>?_
  exact ne_get P.keys e4 (by intro h; injection h)
 have:=P.n1; have:=P.n2; have:=P.n3
 simp only [SP.w,List.mem_cons,List.not_mem_nil,or_false]
 walk_at "m"
theorem Inv.step {p : SP} (P : SPok p) {st dp st' dp' : Int} {frs frs' : List V} {X X' : List O} {L L' : List Int} {S S' : List V} (I : Inv p st dp frs X L S) (F : Fr p.w X X') (hs : HS X' st' dp' p.fr frs') (sn : X'[p.sn]? = some (.list S')) (vs : X'[p.vs]? = some (.list (L'.map V.int))) (hp : L'.Perm L) (hS : ∀ v ∈ S',v ∈ S ∨ ∃ r l,v = .ref r∧X'[r]? = some (.list (l.map V.int))∧List.Perm l p.rows∧p.X0.length ≤ r) : Inv p st' dp' frs' X' L' S':=by
 refine ⟨I.fr.trans F,hs,sn,vs,hp.trans I.perm,fun v hv=>?_⟩
 rcases hS v hv with h | h
 ·refine ex2_4 (I.ok v h) fun r l e e1 e2 e3=>?_
  refine in2_4 r l e (F.get e1 (fun hm=>?_)) e2 e3
  have:=P.lt hm; walk_at "m"
 ·exact h
theorem Inv.app {p : SP} (P : SPok p) {st dp : Int} {frs : List V} {X : List O} {L : List Int} {S : List V} {x : O} (I : Inv p st dp frs X L S) : Inv p st dp frs (X ++ [x]) L S:=
 I.step P Fr.refl.app I.hs.app (get_app I.sn) (get_app I.vs) (List.Perm.refl _) (fun v h=>.inl h)
noncomputable def Enough (p : SP) (z : Int) (L : List Int) (m : Nat) (e : Nat) (X : List O) : Prop:=p.lf < (m : Int)∧∃ dp frs S d l,S.length = m∧Inv p z dp frs X L S∧X[e]? = some (.exc 1 (some d) true)∧X[d]? = some (boom 0 [101,110,111,117,103,104] l)
theorem c84 {p : SP} (P : SPok p) {st dp : Int} {frs : List V} {X : List O} {L : List Int} {S : List V} {a b : Int} (I : Inv p st dp frs X L S) (hst : st < 1000000) (hdp : dp + 8 ≤ 820) (hf : frs.length < 1000) (hS : S.length ≤ 100) : Tf 180 84 [] [.ref 7,.ref p.ob,.int a,.int b] X (fun v X'=>v = .bool (decide (a < b))∧((S.length + 1 : Nat) : Int) ≤ p.lf∧∃ S',S'.length = S.length + 1∧Inv p (st + 1) dp frs X' L S') (Enough p (st + 1) L (S.length + 1)):=by
 have e7:=I.hs.h7; have e6:=I.hs.h6
 unfold hostA at e6
 refine Tf.bodyL0 (F:=f84) (ρ:=[some (.ref 7),some (.ref p.ob),some (.int a),some (.int b)]) rfl rfl rfl rfl ?_
 walk_at "P"
 have I1:=I.app P (x:=.list [.int a,.int b])
 have hb1:=I1.fr.get P.b1 (P.out P.b1 (by intro l h; injection h) (by intro a b c h; injection h))
 have hb2:=I1.fr.get P.b2 (P.out P.b2 (by intro l h; cases h) (by intro a b c h; cases h))
 have hb3:=I1.fr.get P.b3 (P.out P.b3 (by intro l h; injection h) (by intro a b c h; injection h))
 have hk0:=I1.fr.get P.k0 (P.out P.k0 (by intro l h; injection h) (by intro a b c h; injection h))
 have hk1:=I1.fr.get P.k1 (P.out P.k1 (by intro l h; injection h) (by intro a b c h; injection h))
 have hk2:=I1.fr.get P.k2 (P.out P.k2 (by intro l h; injection h) (by intro a b c h; injection h))
 have hk3:=I1.fr.get P.k3 (P.out P.k3 (by intro l h; injection h) (by intro a b c h; injection h))
 have har : (X ++ [O.list [.int a,.int b]])[X.length]? = some (.list [.int a,.int b]):=get_new
 have hxl : (X ++ [O.list [.int a,.int b]]).length = X.length + 1:=by rw [List.length_append]; rfl
 have hge:=I.fr.le
 have w6:=P.lt (a:=6) List.mem_cons_self
 have wf:=P.lt (a:=p.fr) p.mf
 have ws:=P.lt (a:=p.sn) p.ms
 have wv:=P.lt (a:=p.vs) p.mv
 have hnl : X.length ∉ [6,p.fr]:=by simp only [List.mem_cons,List.not_mem_nil,or_false]; walk_at "m"
 refine c41 I1.hs hst hdp hf hb1 hb2 (k1:=110) (by decide) (by decide) (fun Hc Fc Sc _=>?_)
 have o6 : ∀ {x : Nat} {o : O},p.X0[x]? = some o→(∀ l,o ≠ .list l)→(∀ a b c,o ≠ hostA a b c)→x ∉ [6,p.fr]:=fun e h1 h2 hm=>P.out e h1 h2 (by
  simp only [List.mem_cons,List.not_mem_nil,or_false] at hm
  simp only [SP.w,List.mem_cons,List.not_mem_nil,or_false]
  walk_at "m")
 have gb3:=Fc.get hb3 (o6 P.b3 (by intro l h; injection h) (by intro a b c h; injection h))
 have gk0:=Fc.get hk0 (o6 P.k0 (by intro l h; injection h) (by intro a b c h; injection h))
 have gk1:=Fc.get hk1 (o6 P.k1 (by intro l h; injection h) (by intro a b c h; injection h))
 have gk2:=Fc.get hk2 (o6 P.k2 (by intro l h; injection h) (by intro a b c h; injection h))
 have gk3:=Fc.get hk3 (o6 P.k3 (by intro l h; injection h) (by intro a b c h; injection h))
 have gar:=Fc.get har hnl
 have n6s : 6 ≠ p.sn:=by
  refine ex3_1 P.l6 fun x y z e4=>?_
  obtain ⟨S1,e1⟩:=P.lsn
  exact ne_get e4 e1 (by intro h; injection h)
 have n6v : 6 ≠ p.vs:=by
  refine ex3_1 P.l6 fun x y z e4=>?_
  obtain ⟨S1,e1⟩:=P.lvs
  exact ne_get e4 e1 (by intro h; injection h)
 have n6f : 6 ≠ p.fr:=by
  refine ex3_1 P.l6 fun x y z e4=>?_
  obtain ⟨S1,e1⟩:=P.lfr
  exact ne_get e4 e1 (by intro h; injection h)
 have nsf:=P.n5
 have nvf:=P.n6
 have nsv:=P.n4
 have gsn:=Fc.get I1.sn (by simp only [List.mem_cons,List.not_mem_nil,or_false]; walk_at "m")
 have gvs:=Fc.get I1.vs (by simp only [List.mem_cons,List.not_mem_nil,or_false]; walk_at "m")
 have sub1 : ∀ x ∈ [6,p.fr],x ∈ p.w ∨ (X ++ [O.list [.int a,.int b]]).length ≤ x:=fun x hx=>.inl (by
  simp only [List.mem_cons,List.not_mem_nil,or_false] at hx
  simp only [SP.w,List.mem_cons,List.not_mem_nil,or_false]; walk_at "m")
 have I2:=I1.step P (Fc.sub sub1) Sc gsn gvs (List.Perm.refl _) (fun v h=>.inl h)
 have hlen : (L.map V.int).length = p.rows.length:=by rw [List.length_map]; exact I.len
 have hcl:=Fc.le
 apply Tc.clo gb3
 ·rfl
 refine Tf.bodyR (F:=f108) (ρ:=[some (.ref 7),some (.ref X.length)]) (cv:=[]) rfl rfl rfl ?_
 refine (?_ : Te _ [p.c0,p.c1,p.c2,p.c3] _ _ (Hc ++ []) _ _)
 rw [List.append_nil]
 walk_at "P"
 refine Tf.le (k:=2 * (L.map V.int).length + 82) ?_ (by rw [hlen]; have:=P.len; walk_at "m")
 refine c102 (I2.tab P) (by rw [hlen]; have:=P.len; walk_at "m") (by rw [hlen]) gsn hS gar (by walk_at "m") (fun H' r q1 F1 g1 g2 g3 g4=>?_) (fun H' r d l q1 F1 g1 g2 g3 g4=>?_)
 ·have sub2 : ∀ x ∈ [p.sn],x ∈ p.w ∨ Hc.length ≤ x:=fun x hx=>.inl (by
   simp only [List.mem_cons,List.not_mem_nil,or_false] at hx
   simp only [SP.w,List.mem_cons,List.not_mem_nil,or_false]; walk_at "m")
  have S3 : HS H' (st + 1) (dp + 8) p.fr (frs ++ [.ref ((X ++ [O.list [.int a,.int b]]).length + 3)]):=Sc.fr_ F1 (by
   have:=ne_get I2.hs.h7 gsn (by intro h; injection h)
   simp only [List.mem_cons,List.not_mem_nil,or_false]; walk_at "m") (by simp only [List.mem_cons,List.not_mem_nil,or_false]; walk_at "m") (by
   have:=ne_get I2.hs.h5 gsn (by intro h; injection h)
   simp only [List.mem_cons,List.not_mem_nil,or_false]; walk_at "m") (by
   have:=ne_get I2.hs.h4 gsn (by intro h; injection h)
   simp only [List.mem_cons,List.not_mem_nil,or_false]; walk_at "m") (by simp only [List.mem_cons,List.not_mem_nil,or_false]; walk_at "m")
  refine ⟨st + 1,S3,r,_,rfl,get_ne (by walk_at "m") (get_ne (by walk_at "m") g3),?_⟩
  have hFe : Fr p.w H' ((H'.set p.fr (.list frs)).set 6 (hostA (st + 1) p.fr dp)):=(Fr.refl.set (.inl p.mf)).set (.inl List.mem_cons_self)
  have I3 : Inv p (st + 1) dp frs ((H'.set p.fr (.list frs)).set 6 (hostA (st + 1) p.fr dp)) L (S ++ [.ref (Hc.length + 1)]):=by
   refine I2.step P ((F1.sub sub2).trans hFe) (S3.setf.set6) (get_ne n6s (get_ne nsf.symm g1)) (get_ne n6v (get_ne nvf.symm (F1.get gvs (by simp only [List.mem_cons,List.not_mem_nil,or_false]; walk_at "m")))) (List.Perm.refl _) (fun v h=>?_)
   rcases List.mem_append.mp h with h | h
   ·exact .inl h
   ·have hv : v = .ref (Hc.length + 1):=List.mem_singleton.mp h
    exact .inr ⟨Hc.length + 1,L,hv,get_ne (by walk_at "m") (get_ne (by walk_at "m") g2),I.perm,by walk_at "m"⟩
  walk_at "P"
  refine c006.use (by decide) ?_
  walk_at "P"
  refine ⟨by rw [Bool.not_not],q1,_,?_,I3⟩
  rw [List.length_append]; rfl
 ·have sub2 : ∀ x ∈ [p.sn],x ∈ p.w ∨ Hc.length ≤ x:=fun x hx=>.inl (by
   simp only [List.mem_cons,List.not_mem_nil,or_false] at hx
   simp only [SP.w,List.mem_cons,List.not_mem_nil,or_false]; walk_at "m")
  have S3 : HS H' (st + 1) (dp + 8) p.fr (frs ++ [.ref ((X ++ [O.list [.int a,.int b]]).length + 3)]):=Sc.fr_ F1 (by
   have:=ne_get I2.hs.h7 gsn (by intro h; injection h)
   simp only [List.mem_cons,List.not_mem_nil,or_false]; walk_at "m") (by simp only [List.mem_cons,List.not_mem_nil,or_false]; walk_at "m") (by
   have:=ne_get I2.hs.h5 gsn (by intro h; injection h)
   simp only [List.mem_cons,List.not_mem_nil,or_false]; walk_at "m") (by
   have:=ne_get I2.hs.h4 gsn (by intro h; injection h)
   simp only [List.mem_cons,List.not_mem_nil,or_false]; walk_at "m") (by simp only [List.mem_cons,List.not_mem_nil,or_false]; walk_at "m")
  have I3 : Inv p (st + 1) (dp + 8) (frs ++ [.ref ((X ++ [O.list [.int a,.int b]]).length + 3)]) H' L (S ++ [.ref (Hc.length + 1)]):=by
   refine I2.step P (F1.sub sub2) S3 g1 (F1.get gvs (by simp only [List.mem_cons,List.not_mem_nil,or_false]; walk_at "m")) (List.Perm.refl _) (fun v h=>?_)
   rcases List.mem_append.mp h with h | h
   ·exact .inl h
   ·have hv : v = .ref (Hc.length + 1):=List.mem_singleton.mp h
    exact .inr ⟨Hc.length + 1,L,hv,g2,I.perm,by walk_at "m"⟩
  refine ⟨q1,_,_,_,d,l,?_,I3,g3,g4⟩
  rw [List.length_append]; rfl
theorem c23_ks {H : List O} {t d ks vs j : Nat} {nu mt v : V} {L : List V} {z : Int} (T : TI H t d ks vs nu mt L) {k : Nat} (hl : L.length + 54 ≤ k) (hz : z = ((j + 1 : Nat) : Int)) (hj : j < L.length) : Pw k 23 [] [.ref t,.int z,v] H .none (H.set vs (.list (L.set j v))):=by
 subst hz
 refine c23_old T rfl (ksN_simp _ _) (by rw [ksN_len]; exact hl) ?_
 have h:=(fnd_ks L.length 0 j 0).1 hj
 rw [Nat.zero_add] at h
 exact h
theorem TI.set {H : List O} {t d ks vs j : Nat} {nu mt v : V} {L : List V} (T : TI H t d ks vs nu mt L) : TI (H.set vs (.list (L.set j v))) t d ks vs nu mt (L.set j v):=by
 have h:=TT.set_old (j:=j) (v:=v) T
 refine (?_ : TT _ t d ks vs nu mt (ksN 0 (L.set j v).length) _)
 rw [List.length_set]; exact h
theorem swp (A C : List Int) (x y : Int) : (A ++ y :: x :: C).length = A.length + 2 + C.length:=by
 rw [List.length_append,List.length_cons,List.length_cons]; walk_at "m"
theorem swap_set (A C : List Int) (x y : Int) : (((A ++ y :: x :: C).map V.int).set (A.length + 1) (.int y)).set A.length (.int x) = (A ++ x :: y :: C).map V.int:=by
 rw [List.map_append,List.map_append,List.set_append_right _ _ (by rw [List.length_map]; walk_at "m"),List.set_append_right _ _ (by rw [List.length_map]; walk_at "m"),List.length_map,Nat.sub_self,Nat.add_sub_cancel_left]
 rfl
theorem at_app {A C : List Int} {x : Int} {i : Nat} (h : i = A.length) : ((A ++ x :: C).map V.int)[i]? = some (.int x):=by
 subst h
 rw [List.map_append,List.getElem?_append_right (by rw [List.length_map]; exact Nat.le_refl _),List.length_map,Nat.sub_self]; rfl
noncomputable def e83 : Mp.E:=.cmp .gt (.loc 5) (.cst (.int 1))
noncomputable def b83 : List S:=[.asgT [.loc 6,.loc 7] (.tup [.meth (.loc 2) 23 [.loc 5],.meth (.loc 2) 23 [.bin .sub (.loc 5) (.cst (.int 1))]]),.ite (.not (.call (.glo (.fn 84)) [.loc 0,.loc 3,.loc 6,.loc 7])) [.brk] [],.ex (.meth (.loc 2) 46 [.loc 5,.loc 7]),.ex (.meth (.loc 2) 46 [.bin .sub (.loc 5) (.cst (.int 1)),.loc 6]),.augL 5 .sub (.cst (.int 1))]
theorem SPok.n6v {p : SP} (P : SPok p) : 6 ≠ p.vs:=by
 refine ex3_1 P.l6 fun x y z e4=>?_
 obtain ⟨S1,e1⟩:=P.lvs
 exact ne_get e4 e1 (by intro h; injection h)
theorem Inv.vals {p : SP} (P : SPok p) {st dp : Int} {frs : List V} {X : List O} {L L' : List Int} {S : List V} {ys : List V} (I : Inv p st dp frs X L S) (hy : ys = L'.map V.int) (hp : L'.Perm L) : Inv p st dp frs (X.set p.vs (.list ys)) L' S:=by
 subst hy
 have F : Fr [p.vs] X (X.set p.vs (.list (L'.map V.int))):=Fr.refl.set (.inl List.mem_cons_self)
 have out : ∀ {a : Nat} {o : O},X[a]? = some o→(∀ l,o ≠ .list l)→a ∉ [p.vs]:=fun e h hm=>by
  rw [List.mem_singleton.mp hm] at e
  exact h _ (Option.some.inj (e.symm.trans I.vs))
 refine I.step P (F.sub fun x hx=>.inl (by rw [List.mem_singleton.mp hx]; exact p.mv)) (I.hs.fr_ F (out I.hs.h7 (by intro l h; injection h)) (out I.hs.h6 (by intro l h; injection h)) (out I.hs.h5 (by intro l h; injection h)) (out I.hs.h4 (by intro l h; injection h)) ?_) (get_ne P.n4.symm I.sn) (get_eq I.vs) hp (fun v h=>.inl h)
 intro hm
 exact P.n6 (List.mem_singleton.mp hm).symm
theorem inner {p : SP} (P : SPok p) {s0 dp : Int} {frs : List V} (hs0 : s0 < 100000) (hlf : p.lf ≤ 90) (hdp : dp + 8 ≤ 820) (hf : frs.length < 1000) {a1 a4 : Option V} {Q : PF} {E : PE}
  (hE : ∀ e X' L (m : Nat),Enough p (s0 + (m : Int)) L m e X'→(m : Int) ≤ p.lf + 1→E e X') (R : List Int) (S0 N : Nat)
  (hQ : ∀ X' D S' a5 a6 a7,D.length = N→D.Pairwise (· ≤ ·)→Inv p (s0 + S'.length) dp frs X' (D ++ R) S'→(S'.length : Int) ≤ p.lf→(2 ≤ N→S0 + 1 ≤ S'.length)→S0 ≤ S'.length→Q (.nxt,[some (.ref 7),a1,some (.ref p.t),some (.ref p.ob),a4,a5,a6,a7]) X') : ∀ (n : Nat) (A : List Int) (x : Int) (C : List Int) (X : List O) (S : List V) (a6 a7 : Option V),A.length = n→n + 1 + C.length = N→(A ++ C).Pairwise (· ≤ ·)→(∀ c ∈ C,x ≤ c)→Inv p (s0 + S.length) dp frs X (A ++ x :: (C ++ R)) S→(S.length : Int) ≤ p.lf→(C ≠ []→S0 + 1 ≤ S.length)→S0 ≤ S.length→Twh (n + 200) [] [some (.ref 7),a1,some (.ref p.t),some (.ref p.ob),a4,some (.int ((n + 1 : Nat) : Int)),a6,a7] e83 b83 X Q E
 | 0,A,x,C,X,S,a6,a7,hA,hN,hs,hx,I,hS,hc,h0=>by
  have hA' : A = []:=List.length_eq_zero_iff.mp hA
  subst hA'
  refine Twh.step ?_
  unfold e83
  walk_at "P"
  refine hQ X (x :: C) S _ _ _ (by rw [List.length_cons]; walk_at "m") (List.pairwise_cons.mpr ⟨hx,hs⟩) I hS (fun h2=>?_) h0
  refine hc ?_
  intro hc0; subst hc0
  simp only [List.length_nil] at hN
  walk_at "m"
 | n + 1,A,x,C,X,S,a6,a7,hA,hN,hs,hx,I,hS,hc,h0=>by
  obtain ⟨A',y,rfl⟩ : ∃ A' y,A = A' ++ [y]:=by
   rcases List.eq_nil_or_concat A with h | ⟨A',y,h⟩
   ·subst h; injection hA
   ·exact in2_1 A' y (by rw [h,List.concat_eq_append])
  have hA' : A'.length = n:=by rw [List.length_append] at hA; exact Nat.succ.inj hA
  have eL : A' ++ [y] ++ x :: (C ++ R) = A' ++ y :: x :: (C ++ R):=by rw [List.append_assoc]; rfl
  rw [eL] at I
  have T:=I.tab P
  have hl6 : ((A' ++ y :: x :: (C ++ R)).map V.int).length ≤ 6:=by rw [List.length_map,I.len]; exact P.len
  have hl7 : ((A' ++ y :: x :: (C ++ R)).map V.int).length = A'.length + 2 + (C ++ R).length:=by rw [List.length_map,swp]
  have i1 : ((A' ++ y :: x :: (C ++ R)).map V.int)[n]? = some (.int y):=at_app hA'.symm
  have i2 : ((A' ++ y :: x :: (C ++ R)).map V.int)[n + 1]? = some (.int x):=by
   rw [← eL]
   exact at_app (by rw [List.length_append,hA']; rfl)
  have x1:=T.inst
  have x2:=T.att
  rw [show n + 1 + 200 = n + 200 + 1 by walk_at "m"]
  refine Twh.step ?_
  unfold e83 b83
  walk_at "P"
  refine Br.dec (fun _=>?_) (fun h=>absurd (by walk_at "m") h)
  walk_at "P"
  refine (c22_ks T (Nat.le_refl _) (i:=n + 1) rfl i2).use (by walk_at "m") ?_
  walk_at "P"
  refine (c22_ks T (Nat.le_refl _) (i:=n) (by walk_at "m") i1).use (by walk_at "m") ?_
  walk_at "P"
  have I1:=I.app P (x:=.tup [.int x,.int y])
  refine Tf.use (c84 P I1 (by walk_at "m") hdp hf (by walk_at "m")) (by walk_at "m") (fun v X' hv=>?_) (fun e X' he=>?_)
  ·obtain ⟨rfl,q1,S',q2,I2⟩:=hv
   walk_at "P"
   refine Br.ndec (fun hp=>?_) (fun hp=>?_)
   ·have hyx : y ≤ x:=by walk_at "m"
    have hst : s0 + (S.length : Int) + 1 = s0 + (S'.length : Int):=by walk_at "m"
    rw [hst] at I2
    walk_at "P"
    refine hQ X' (A' ++ y :: x :: C) S' _ _ _ (by rw [swp]; walk_at "m") ?_ (by rw [List.append_assoc]; exact I2) (by walk_at "m") (fun _=>by walk_at "m") (by walk_at "m")
    rw [List.append_assoc] at hs
    refine ex0_3 (List.pairwise_append.mp hs) fun p1 p2 p3=>?_
    have p4:=List.pairwise_cons.mp p2
    refine List.pairwise_append.mpr ⟨p1,List.pairwise_cons.mpr ⟨fun z hz=>?_,List.pairwise_cons.mpr ⟨hx,p4.2⟩⟩,fun a ha b hb=>?_⟩
    ·rcases List.mem_cons.mp hz with rfl | hz
     ·exact hyx
     ·exact p4.1 z hz
    ·rcases List.mem_cons.mp hb with rfl | hb
     ·exact p3 a ha _ List.mem_cons_self
     ·rcases List.mem_cons.mp hb with rfl | hb
      ·exact Int.le_trans (p3 a ha y List.mem_cons_self) hyx
      ·exact p3 a ha b (List.mem_cons_of_mem _ hb)
   ·have hst : s0 + (S.length : Int) + 1 = s0 + (S'.length : Int):=by walk_at "m"
    rw [hst] at I2
    have T2:=I2.tab P
    have x3:=T2.inst
    have x4:=T2.att
    walk_at "P"
    refine (c23_ks T2 (Nat.le_refl _) (j:=n + 1) rfl (by walk_at "m")).use (by walk_at "m") ?_
    have T3:=T2.set (j:=n + 1) (v:=.int y)
    have x5:=T3.inst
    have x6:=T3.att
    walk_at "P"
    refine (c23_ks T3 (Nat.le_refl _) (j:=n) (by walk_at "m") (by rw [List.length_set]; walk_at "m")).use (by rw [List.length_set]; walk_at "m") ?_
    rw [List.set_set]
    have esw : (((A' ++ y :: x :: (C ++ R)).map V.int).set (n + 1) (.int y)).set n (.int x) = (A' ++ x :: (y :: C ++ R)).map V.int:=by
     subst hA'; exact swap_set A' (C ++ R) x y
    have I3:=I2.vals P esw (by
     refine List.Perm.append_left A' ?_
     exact List.Perm.swap y x (C ++ R))
    walk_at "P"
    have e9 : (((n + 1 + 1 : Nat) : Int) - 1) = ((n + 1 : Nat) : Int):=by walk_at "m"
    rw [e9]
    refine inner P hs0 hlf hdp hf hE R S0 N hQ n A' x (y :: C) _ S' _ _ hA' (by rw [List.length_cons]; walk_at "m") (by rw [List.append_assoc] at hs; exact hs) (fun c hc=>?_) I3 (by walk_at "m") (fun _=>by walk_at "m") (by walk_at "m")
    rcases List.mem_cons.mp hc with rfl | hc
    ·walk_at "m"
    ·exact hx c hc
  ·have hst : s0 + (S.length : Int) + 1 = s0 + ((S.length + 1 : Nat) : Int):=by walk_at "m"
   rw [hst] at he
   exact hE e X' _ _ he (by walk_at "m")
theorem outer {p : SP} (P : SPok p) {s0 dp : Int} {frs : List V} (hs0 : s0 < 100000) (hlf : p.lf ≤ 90) (hdp : dp + 8 ≤ 820) (hf : frs.length < 1000) {a1 : Option V} {Q : PF} {E : PE}
  (hE : ∀ e X' L (m : Nat),Enough p (s0 + (m : Int)) L m e X'→(m : Int) ≤ p.lf + 1→E e X')
  (hQ : ∀ X' L' S' ρ',L'.Pairwise (· ≤ ·)→Inv p (s0 + S'.length) dp frs X' L' S'→(S'.length : Int) ≤ p.lf→p.rows.length ≤ S'.length + 1→Q (.nxt,ρ') X') : ∀ (r i : Nat) (D R : List Int) (X : List O) (S : List V) (a4 a5 a6 a7 : Option V),R.length = r→D.length = i→1 ≤ i→D.Pairwise (· ≤ ·)→Inv p (s0 + S.length) dp frs X (D ++ R) S→(S.length : Int) ≤ p.lf→i ≤ S.length + 1→Tfo (r + 215) [] [some (.ref 7),a1,some (.ref p.t),some (.ref p.ob),a4,a5,a6,a7] [.loc 4] (.rng ((i + 1 : Nat) : Int) r) [.asg (.loc 5) (.loc 4),.wh e83 b83] X Q E
 | 0,i,D,R,X,S,a4,a5,a6,a7,hR,hD,hi,hs,I,hS,hc=>by
  have hR' : R = []:=List.length_eq_zero_iff.mp hR
  subst hR'
  rw [List.append_nil] at I
  exact Tfo.done rfl (hQ X D S _ hs I hS (by have:=I.len; walk_at "m"))
 | r + 1,i,D,R,X,S,a4,a5,a6,a7,hR,hD,hi,hs,I,hS,hc=>by
  obtain ⟨x,R',rfl⟩ : ∃ x R',R = x :: R':=by
   induction R using List.casesOn with
   | nil=>injection hR
   | cons x R'=>exact in2_1 x R' rfl
  have hl:=I.len
  rw [List.length_append,List.length_cons] at hl
  have hl6:=P.len
  rw [show r + 1 + 215 = r + 215 + 1 by walk_at "m"]
  refine Tfo.step (s1:=.rng ((i + 1 : Nat) + 1) r) rfl ?_
  walk_at "P"
  have h:=inner P hs0 hlf hdp hf (a1:=a1) (a4:=some (.int ((i + 1 : Nat) : Int))) (Q:=Sq (fun ρ1 H1=>Tss (r + 213) [] ρ1 [] H1 (Lq (fun ρ1 H2=>Tfo (r + 215) [] ρ1 [.loc 4] (.rng ((i + 1 : Nat) + 1) r) [.asg (.loc 5) (.loc 4),.wh e83 b83] H2 Q E) Q) E) (Lq (fun ρ1 H2=>Tfo (r + 215) [] ρ1 [.loc 4] (.rng ((i + 1 : Nat) + 1) r) [.asg (.loc 5) (.loc 4),.wh e83 b83] H2 Q E) Q)) (E:=E) hE R' S.length (i + 1) (fun X' D' S' b5 b6 b7 h1 h2 h3 h4 h5 h6=>?_) i D x [] X S a6 a7 hD rfl (by rw [List.append_nil]; exact hs) (fun c hc=>by cases hc) I hS (fun h=>absurd rfl h) (Nat.le_refl _)
  ·exact ⟨fun n hn=>h.run n (by walk_at "m")⟩
  ·walk_at "P"
   have h7:=h5 (by walk_at "m")
   exact outer P hs0 hlf hdp hf hE hQ r (i + 1) D' R' X' S' _ _ _ _ (Nat.succ.inj hR) h1 (by walk_at "m") h2 h3 h4 (by walk_at "m")
theorem c83 {p : SP} (P : SPok p) {s0 dp : Int} {frs : List V} (hs0 : s0 < 100000) (hlf : p.lf ≤ 90) (hlf0 : 0 ≤ p.lf) (hdp : dp + 8 ≤ 820) (hf : frs.length < 1000) {X : List O} {L : List Int} {ar : Nat} (I : Inv p s0 dp frs X L []) (har : X[ar]? = some (.list [.ref p.t,.ref p.ob])) : Tf 240 83 [] [.ref 7,.ref ar] X (fun v X'=>∃ r L' S',v = .ref r∧X'[r]? = some (.list [])∧p.X0.length ≤ r∧L'.Pairwise (· ≤ ·)∧Inv p (s0 + S'.length) dp frs X' L' S'∧(S'.length : Int) ≤ p.lf∧p.rows.length ≤ S'.length + 1) (fun e X'=>∃ (L' : List Int) (m : Nat),Enough p (s0 + (m : Int)) L' m e X'∧(m : Int) ≤ p.lf + 1):=by
 have T:=I.tab P
 have x1:=T.inst
 have x2:=T.att
 have hb1:=I.fr.get P.b1 (P.out P.b1 (by intro l h; injection h) (by intro a b c h; injection h))
 have hl:=I.len
 have hl6:=P.len
 have hlm : (L.map V.int).length = L.length:=List.length_map _
 refine Tf.bodyL0 (F:=f83) (ρ:=[some (.ref 7),some (.ref ar),none,none,none,none,none,none]) rfl rfl rfl rfl ?_
 walk_at "P"
 refine (c58 har (i:=0) rfl rfl x1).use (by walk_at "m") ?_
 walk_at "P"
 refine (c51 har (i:=1) rfl rfl).use (by walk_at "m") ?_
 walk_at "P"
 refine (c29 hb1).use (by walk_at "m") ?_
 walk_at "P"
 refine Tsrc.rng2 ?_
 walk_at "P"
 refine (c24 T (fun v hv=>?_)).use (by walk_at "m") ?_
 ·(refine ex1_2 (List.mem_map.mp hv) fun i _ z1q=>?_; subst z1q); rfl
 walk_at "P"
 rw [hlm]
 refine in2_3 2 ((L.length : Int) + 1) rfl ⟨by decide,by walk_at "m"⟩ ?_
 have hfin : ∀ {X' : List O} {L' : List Int} {S' : List V} {ρ' : Lo} {Q : PQ} {E : PE},(ρ' = ρ')→Inv p (s0 + S'.length) dp frs X' L' S'→Q (.ref X'.length) (X' ++ [.list []])→Tss 235 [] ρ' [.ret (.lst [])] X' (Rq Q) E:=fun _ I' hq=>by
  walk_at "P"
  exact hq
 have hQ : ∀ X' L' S' ρ',L'.Pairwise (· ≤ ·)→Inv p (s0 + S'.length) dp frs X' L' S'→(S'.length : Int) ≤ p.lf→p.rows.length ≤ S'.length + 1→Sq (fun ρ1 H1=>Tss 235 [] ρ1 [.ret (.lst [])] H1 (Rq fun v X'=>∃ r L' S',v = .ref r∧X'[r]? = some (.list [])∧p.X0.length ≤ r∧L'.Pairwise (· ≤ ·)∧Inv p (s0 + S'.length) dp frs X' L' S'∧(S'.length : Int) ≤ p.lf∧p.rows.length ≤ S'.length + 1) (fun e X'=>∃ (L' : List Int) (m : Nat),Enough p (s0 + (m : Int)) L' m e X'∧(m : Int) ≤ p.lf + 1)) (Rq fun v X'=>∃ r L' S',v = .ref r∧X'[r]? = some (.list [])∧p.X0.length ≤ r∧L'.Pairwise (· ≤ ·)∧Inv p (s0 + S'.length) dp frs X' L' S'∧(S'.length : Int) ≤ p.lf∧p.rows.length ≤ S'.length + 1) (.nxt,ρ') X':=fun X' L' S' ρ' h1 h2 h3 h4=>Sq.nxt (hfin (ρ':=ρ') rfl h2 ⟨X'.length,L',S',rfl,get_new,h2.fr.le,h1,h2.app P,h3,h4⟩)
 induction L using List.casesOn with
 | nil=>exact Tfo.done rfl (hQ X [] [] _ List.Pairwise.nil (by rw [show s0 + (([] : List V).length : Int) = s0 from Int.add_zero _]; exact I) hlf0 (by rw [← hl]; exact Nat.zero_le _))
 | cons x R=>
  have e1 : (((x :: R).length : Int) + 1 - 2).toNat = R.length:=by rw [List.length_cons]; walk_at "m"
  rw [e1]
  have h:=outer P hs0 hlf hdp hf (a1:=some (.ref ar)) (E:=fun e X'=>∃ (L' : List Int) (m : Nat),Enough p (s0 + (m : Int)) L' m e X'∧(m : Int) ≤ p.lf + 1) (fun e X' L m h1 h2=>⟨L,m,h1,h2⟩) hQ R.length 1 [x] R X [] none none none none rfl rfl (Nat.le_refl _) (List.pairwise_singleton _ _) (by rw [show s0 + (([] : List V).length : Int) = s0 from Int.add_zero _]; exact I) hlf0 (Nat.le_refl _)
  exact ⟨fun n hn=>h.run n (by rw [List.length_cons] at hl; walk_at "m")⟩
theorem c39 {H : List O} {st dp : Int} {fr : Nat} {frs : List V} (S : HS H st dp fr frs) : Pw 40 39 [] [.ref 7,.int 0] H .none ((H ++ [O.list []]).set 6 (hostA st H.length 0)):=by
 have e7:=S.h7; have e6:=S.h6; have ef:=S.hf
 unfold hostA at e6
 have h6:=get_lt S.h6
 have n6 : 6 ≠ H.length:=by walk_at "m"
 refine Tf.bodyL0 (F:=f39) (ρ:=[some (.ref 7),some (.int 0)]) rfl rfl rfl rfl ?_
 walk_at "P"
 refine W.ok (a:=.ref H.length) (H':=H ++ [O.list []]) ?_ ?_
 ·refine (?_ : M.bind (getO fr) _ H = _)
  unfold M.bind getO
  rw [ef]; rfl
 have g1 : ((H ++ [O.list []]).set 6 (hostA st H.length dp))[H.length]? = some (.list []):=get_ne n6 get_new
 unfold hostA at g1
 walk_at "P"
 refine ⟨rfl,?_⟩
 rw [List.set_set]; rfl
theorem nxt_seq {H : List O} {a i : Nat} {xs : List V} {y : V} (e : H[a]? = some (.list xs)) (hi : xs[i]? = some y) : nextS (.seq a i) H = .ok (some ([y],.seq a (i + 1))) H:=by
 refine (?_ : M.bind (getO a) _ H = _)
 unfold M.bind getO
 rw [e]
 dsimp only
 rw [hi]; rfl
theorem nxt_seq0 {H : List O} {a i : Nat} {xs : List V} (e : H[a]? = some (.list xs)) (hi : xs[i]? = none) : nextS (.seq a i) H = .ok none H:=by
 refine (?_ : M.bind (getO a) _ H = _)
 unfold M.bind getO
 rw [e]
 dsimp only
 rw [hi]; rfl
theorem HS.app6 {H : List O} {st dp : Int} {fr : Nat} {frs : List V} (S : HS H st dp fr frs) : HS ((H ++ [O.list []]).set 6 (hostA st H.length 0)) st 0 H.length []:=by
 have h6:=get_lt S.h6
 exact ⟨get_ne (by decide) (get_app S.h7),get_eq (get_app S.h6),get_ne (by decide) (get_app S.h5),get_ne (by decide) (get_app S.h4),get_ne (by walk_at "m") get_new⟩
structure BI (H : List O) (b bd : Nat) (nu nm wk : V) : Prop where
 h1 : H[b]? = some (.inst 3 bd)
 h2 : H[bd]? = some (.attrs [(18,nu),(24,nm),(25,wk)])
theorem BI.fr_ {H H' : List O} {b bd : Nat} {nu nm wk : V} {w : List Nat} (B : BI H b bd nu nm wk) (F : Fr w H H') (h1 : b ∉ w) (h2 : bd ∉ w) : BI H' b bd nu nm wk:=⟨F.get B.h1 h1,F.get B.h2 h2⟩
noncomputable def b100 : List S:=[.ex (.meth (.loc 0) 49 [.cst (.int 0)]),.tryx (.meth (.loc 0) 37 [.loc 4,.loc 3,.cst (.bytes [])]) 1 6 (.attr (.loc 6) 15)]
noncomputable def Heard (Q : PQ) (e : Nat) (X : List O) : Prop:=∃ d t l,X[e]? = some (.exc 1 (some d) true)∧X[d]? = some (boom 0 t l)∧Q (.bytes t) X
theorem t100 {k k1 : Nat} {H : List O} {st dp : Int} {fr b bd : Nat} {frs : List V} {nu nm wk args : V} {a1 a2 a5 : Option V} {Q : PQ} {E : PE} (S : HS H st dp fr frs) (hs : st < 1000000) (B : BI H b bd nu nm wk) (hk1 : 60 ≤ k1) (hk : k1 + 52 ≤ k)
  (hw : ∀ X,Fr [6] H X→HS X st 0 H.length []→X.length = H.length + 1→CB k1 X st 0 H.length [] wk args Q (Heard Q)) : Tss k [] [some (.ref 7),a1,a2,some args,some (.ref b),a5,none] b100 H (Rq Q) E:=by
 have S1:=S.app6
 have h6:=get_lt S.h6
 have F1 : Fr [6] H ((H ++ [O.list []]).set 6 (hostA st H.length 0)):=Fr.refl.app.set (.inl List.mem_cons_self)
 have l1 : ((H ++ [O.list []]).set 6 (hostA st H.length 0)).length = H.length + 1:=by rw [List.length_set,List.length_append]; rfl
 have e7:=S.h7; have e6:=S.h6
 have x7:=S1.h7; have x6:=S1.h6
 unfold hostA at e6
 have B1:=B.fr_ F1 (fun hm=>by
  have:=List.mem_singleton.mp hm
  have h1:=B.h1; rw [this] at h1
  have:=Option.some.inj (h1.symm.trans S.h6); cases this) (fun hm=>by
  have:=List.mem_singleton.mp hm
  have h1:=B.h2; rw [this] at h1
  have:=Option.some.inj (h1.symm.trans S.h6); unfold hostA at this; cases this)
 have hw1:=hw _ F1 S1 l1
 refine (⟨fun n hn=>?_⟩ : Tss k [] _ _ _ _ _)
 refine Tss.run (k:=k1 + 52) ?_ n (by walk_at "m")
 unfold b100
 walk_at "P"
 refine (c39 S).use (by walk_at "m") ?_
 generalize ((H ++ [O.list []]).set 6 (hostA st H.length 0)) = X at S1 F1 l1 x7 x6 B1 hw1 ⊢
 unfold hostA at x6
 walk_at "P"
 refine Ts.tryx ?_
 walk_at "P"
 refine c43 S1 hs (by decide) (by decide) B1.h1 B1.h2 (k1:=k1) hk1 (by walk_at "m") (fun Hc h1 h2 h3=>(hw1 Hc h1 h2 h3).use (by walk_at "m") (fun v Hd h=>?_) (fun e X' h=>?_))
 ·(refine ex1_2 h fun st' Sd q=>?_; clear h)
  refine in1_2 st' Sd ?_
  walk_at "P"
  exact q
 ·(refine ex3_3 h fun d t l q1 q2 q3=>?_; clear h)
  refine in2_3 (some d) true q1 rfl ?_
  walk_at "P"
  refine W.getAx q1 q2 rfl rfl ?_
  walk_at "P"
  exact q3
noncomputable def KS : List V:=[.bytes [112,114,105,110,116],.bytes [116,121,112,101],.bytes [116,111,115,116,114,105,110,103],.bytes [116,111,110,117,109,98,101,114],.bytes [110,101,120,116],.bytes [112,97,105,114,115],.bytes [105,112,97,105,114,115],.bytes [114,97,119,103,101,116],.bytes [114,97,119,115,101,116],.bytes [114,97,119,101,113,117,97,108],.bytes [115,101,108,101,99,116],.bytes [117,110,112,97,99,107],.bytes [97,115,115,101,114,116],.bytes [101,114,114,111,114],.bytes [112,99,97,108,108],.bytes [115,101,116,109,101,116,97,116,97,98,108,101],.bytes [103,101,116,109,101,116,97,116,97,98,108,101],.bytes [116,97,98,108,101],.bytes [115,116,114,105,110,103],.bytes [109,97,116,104],.bytes [95,71],.bytes [95,86,69,82,83,73,79,78]]
noncomputable def hp (xs : List Int) : List O:=[O.frz (xs.map V.int),O.list (cut (xs.map V.int) none (some 30)),O.list (cut (xs.map V.int) none (some 30)),O.list [V.ref 2,V.int 0],O.attrs [(5,V.int 64),(6,V.int 250),(7,V.int 60),(8,V.int 200),(9,V.int 40),(10,V.int 200),(11,V.int 2000),(12,V.int 50),(13,V.int 1000000000),(14,V.int 1000000)],O.inst 0 4,O.attrs [(30,V.ref 5),(31,V.bytes [108,97,119]),(32,V.ref 8),(13,V.int 0),(33,V.int 0),(10,V.ref 9),(29,V.int 0),(34,V.ref 11)],O.inst 5 6,O.list [],O.list [],O.attrs [(18,V.int (-60)),(19,V.ref 12),(20,V.ref 13),(21,V.none)],O.inst 2 10,O.list [V.bytes [95,95,105,110,100,101,120]],O.list [V.ref 106],O.tup [V.ref 3,V.ref 7],O.cell (some (V.ref 36)),O.clo 107 [15],O.tup [V.bytes [112,114,105,110,116],V.ref 16],O.tup [V.bytes [116,121,112,101],V.fn 61],O.tup [V.bytes [116,111,115,116,114,105,110,103],V.fn 62],O.tup [V.bytes [116,111,110,117,109,98,101,114],V.fn 63],O.tup [V.bytes [110,101,120,116],V.fn 64],O.tup [V.bytes [112,97,105,114,115],V.fn 65],O.tup [V.bytes [105,112,97,105,114,115],V.fn 67],O.tup [V.bytes [114,97,119,103,101,116],V.fn 68],O.tup [V.bytes [114,97,119,115,101,116],V.fn 69],O.tup [V.bytes [114,97,119,101,113,117,97,108],V.fn 70],O.tup [V.bytes [115,101,108,101,99,116],V.fn 71],O.tup [V.bytes [117,110,112,97,99,107],V.fn 72],O.tup [V.bytes [97,115,115,101,114,116],V.fn 73],O.tup [V.bytes [101,114,114,111,114],V.fn 74],O.tup [V.bytes [112,99,97,108,108],V.fn 75],O.tup [V.bytes [115,101,116,109,101,116,97,116,97,98,108,101],V.fn 76],O.tup [V.bytes [103,101,116,109,101,116,97,116,97,98,108,101],V.fn 77],O.list [V.ref 17,V.ref 18,V.ref 19,V.ref 20,V.ref 21,V.ref 22,V.ref 23,V.ref 24,V.ref 25,V.ref 26,V.ref 27,V.ref 28,V.ref 29,V.ref 30,V.ref 31,V.ref 32,V.ref 33],O.attrs [(18,V.int (-1)),(19,V.ref 37),(20,V.ref 38),(21,V.none)],O.inst 2 35,O.list [V.bytes [112,114,105,110,116],V.bytes [116,121,112,101],V.bytes [116,111,115,116,114,105,110,103],V.bytes [116,111,110,117,109,98,101,114],V.bytes [110,101,120,116],V.bytes [112,97,105,114,115],V.bytes [105,112,97,105,114,115],V.bytes [114,97,119,103,101,116],V.bytes [114,97,119,115,101,116],V.bytes [114,97,119,101,113,117,97,108],V.bytes [115,101,108,101,99,116],V.bytes [117,110,112,97,99,107],V.bytes [97,115,115,101,114,116],V.bytes [101,114,114,111,114],V.bytes [112,99,97,108,108],V.bytes [115,101,116,109,101,116,97,116,97,98,108,101],V.bytes [103,101,116,109,101,116,97,116,97,98,108,101],V.bytes [116,97,98,108,101],V.bytes [115,116,114,105,110,103],V.bytes [109,97,116,104],V.bytes [95,71],V.bytes [95,86,69,82,83,73,79,78]],O.list [V.ref 40,V.ref 42,V.ref 44,V.ref 46,V.ref 48,V.ref 50,V.ref 52,V.ref 54,V.ref 56,V.ref 58,V.ref 60,V.ref 62,V.ref 64,V.ref 66,V.ref 68,V.ref 70,V.ref 72,V.ref 81,V.ref 106,V.ref 130,V.ref 36,V.bytes [76,117,97,32,53,46,49]],O.attrs [(18,V.int (-1)),(24,V.bytes [112,114,105,110,116]),(25,V.ref 16)],O.inst 3 39,O.attrs [(18,V.int (-2)),(24,V.bytes [116,121,112,101]),(25,V.fn 61)],O.inst 3 41,O.attrs [(18,V.int (-3)),(24,V.bytes [116,111,115,116,114,105,110,103]),(25,V.fn 62)],O.inst 3 43,O.attrs [(18,V.int (-4)),(24,V.bytes [116,111,110,117,109,98,101,114]),(25,V.fn 63)],O.inst 3 45,O.attrs [(18,V.int (-5)),(24,V.bytes [110,101,120,116]),(25,V.fn 64)],O.inst 3 47,O.attrs [(18,V.int (-6)),(24,V.bytes [112,97,105,114,115]),(25,V.fn 65)],O.inst 3 49,O.attrs [(18,V.int (-7)),(24,V.bytes [105,112,97,105,114,115]),(25,V.fn 67)],O.inst 3 51,O.attrs [(18,V.int (-8)),(24,V.bytes [114,97,119,103,101,116]),(25,V.fn 68)],O.inst 3 53,O.attrs [(18,V.int (-9)),(24,V.bytes [114,97,119,115,101,116]),(25,V.fn 69)],O.inst 3 55,O.attrs [(18,V.int (-10)),(24,V.bytes [114,97,119,101,113,117,97,108]),(25,V.fn 70)],O.inst 3 57,O.attrs [(18,V.int (-11)),(24,V.bytes [115,101,108,101,99,116]),(25,V.fn 71)],O.inst 3 59,O.attrs [(18,V.int (-12)),(24,V.bytes [117,110,112,97,99,107]),(25,V.fn 72)],O.inst 3 61,O.attrs [(18,V.int (-13)),(24,V.bytes [97,115,115,101,114,116]),(25,V.fn 73)],O.inst 3 63,O.attrs [(18,V.int (-14)),(24,V.bytes [101,114,114,111,114]),(25,V.fn 74)],O.inst 3 65,O.attrs [(18,V.int (-15)),(24,V.bytes [112,99,97,108,108]),(25,V.fn 75)],O.inst 3 67,O.attrs [(18,V.int (-16)),(24,V.bytes [115,101,116,109,101,116,97,116,97,98,108,101]),(25,V.fn 76)],O.inst 3 69,O.attrs [(18,V.int (-17)),(24,V.bytes [103,101,116,109,101,116,97,116,97,98,108,101]),(25,V.fn 77)],O.inst 3 71,O.tup [V.bytes [105,110,115,101,114,116],V.fn 78],O.tup [V.bytes [114,101,109,111,118,101],V.fn 79],O.tup [V.bytes [99,111,110,99,97,116],V.fn 80],O.tup [V.bytes [103,101,116,110],V.fn 81],O.tup [V.bytes [109,97,120,110],V.fn 82],O.tup [V.bytes [115,111,114,116],V.fn 83],O.list [V.ref 73,V.ref 74,V.ref 75,V.ref 76,V.ref 77,V.ref 78],O.attrs [(18,V.int (-30)),(19,V.ref 82),(20,V.ref 83),(21,V.none)],O.inst 2 80,O.list [V.bytes [105,110,115,101,114,116],V.bytes [114,101,109,111,118,101],V.bytes [99,111,110,99,97,116],V.bytes [103,101,116,110],V.bytes [109,97,120,110],V.bytes [115,111,114,116]],O.list [V.ref 85,V.ref 87,V.ref 89,V.ref 91,V.ref 93,V.ref 95],O.attrs [(18,V.int (-30)),(24,V.bytes [105,110,115,101,114,116]),(25,V.fn 78)],O.inst 3 84,O.attrs [(18,V.int (-31)),(24,V.bytes [114,101,109,111,118,101]),(25,V.fn 79)],O.inst 3 86,O.attrs [(18,V.int (-32)),(24,V.bytes [99,111,110,99,97,116]),(25,V.fn 80)],O.inst 3 88,O.attrs [(18,V.int (-33)),(24,V.bytes [103,101,116,110]),(25,V.fn 81)],O.inst 3 90,O.attrs [(18,V.int (-34)),(24,V.bytes [109,97,120,110]),(25,V.fn 82)],O.inst 3 92,O.attrs [(18,V.int (-35)),(24,V.bytes [115,111,114,116]),(25,V.fn 83)],O.inst 3 94,O.tup [V.bytes [108,101,110],V.fn 85],O.tup [V.bytes [115,117,98],V.fn 87],O.tup [V.bytes [114,101,112],V.fn 88],O.tup [V.bytes [114,101,118,101,114,115,101],V.fn 89],O.tup [V.bytes [108,111,119,101,114],V.fn 90],O.tup [V.bytes [117,112,112,101,114],V.fn 91],O.tup [V.bytes [98,121,116,101],V.fn 92],O.tup [V.bytes [99,104,97,114],V.fn 93],O.list [V.ref 96,V.ref 97,V.ref 98,V.ref 99,V.ref 100,V.ref 101,V.ref 102,V.ref 103],O.attrs [(18,V.int (-40)),(19,V.ref 107),(20,V.ref 108),(21,V.none)],O.inst 2 105,O.list [V.bytes [108,101,110],V.bytes [115,117,98],V.bytes [114,101,112],V.bytes [114,101,118,101,114,115,101],V.bytes [108,111,119,101,114],V.bytes [117,112,112,101,114],V.bytes [98,121,116,101],V.bytes [99,104,97,114]],O.list [V.ref 110,V.ref 112,V.ref 114,V.ref 116,V.ref 118,V.ref 120,V.ref 122,V.ref 124],O.attrs [(18,V.int (-40)),(24,V.bytes [108,101,110]),(25,V.fn 85)],O.inst 3 109,O.attrs [(18,V.int (-41)),(24,V.bytes [115,117,98]),(25,V.fn 87)],O.inst 3 111,O.attrs [(18,V.int (-42)),(24,V.bytes [114,101,112]),(25,V.fn 88)],O.inst 3 113,O.attrs [(18,V.int (-43)),(24,V.bytes [114,101,118,101,114,115,101]),(25,V.fn 89)],O.inst 3 115,O.attrs [(18,V.int (-44)),(24,V.bytes [108,111,119,101,114]),(25,V.fn 90)],O.inst 3 117,O.attrs [(18,V.int (-45)),(24,V.bytes [117,112,112,101,114]),(25,V.fn 91)],O.inst 3 119,O.attrs [(18,V.int (-46)),(24,V.bytes [98,121,116,101]),(25,V.fn 92)],O.inst 3 121,O.attrs [(18,V.int (-47)),(24,V.bytes [99,104,97,114]),(25,V.fn 93)],O.inst 3 123,O.tup [V.bytes [97,98,115],V.fn 94],O.tup [V.bytes [109,97,120],V.fn 95],O.tup [V.bytes [109,105,110],V.fn 96],O.list [V.ref 125,V.ref 126,V.ref 127],O.attrs [(18,V.int (-50)),(19,V.ref 131),(20,V.ref 132),(21,V.none)],O.inst 2 129,O.list [V.bytes [97,98,115],V.bytes [109,97,120],V.bytes [109,105,110]],O.list [V.ref 134,V.ref 136,V.ref 138],O.attrs [(18,V.int (-50)),(24,V.bytes [97,98,115]),(25,V.fn 94)],O.inst 3 133,O.attrs [(18,V.int (-51)),(24,V.bytes [109,97,120]),(25,V.fn 95)],O.inst 3 135,O.attrs [(18,V.int (-52)),(24,V.bytes [109,105,110]),(25,V.fn 96)],O.inst 3 137]
noncomputable def LS (tv : V) : List V:=[V.ref 40,V.ref 42,tv,V.ref 46,V.ref 48,V.ref 50,V.ref 52,V.ref 54,V.ref 56,V.ref 58,V.ref 60,V.ref 62,V.ref 64,V.ref 66,V.ref 68,V.ref 70,V.ref 72,V.ref 81,V.ref 106,V.ref 130,V.ref 36,V.bytes [76,117,97,32,53,46,49]]
theorem c99 {H : List O} {j : Nat} {zs : List Int} {k : Int} (e3 : H[3]? = some (.list [.ref 2,.int j])) (e2 : H[2]? = some (.list (zs.map V.int))) (hj : j < 1000) (hk : 0 < k) : Tf 40 99 [] [.ref 3,.int k] H (fun v H'=>∃ r : Int,v = .int r∧0 ≤ r∧r < k∧H' = H.set 3 (.list [.ref 2,.int ((j + 1 : Nat) : Int)])) (fun _ _=>False):=by
 refine Tf.bodyL0 (F:=f99) (ρ:=[some (.ref 3),some (.int k),none]) rfl rfl rfl rfl ?_
 walk_at "P"
 refine W.getI (i:=1) e3 rfl ?_
 walk_at "P"
 refine W.setI (i:=1) e3 (Nat.le_of_ble_eq_true rfl) ?_
 have g3 : (H.set 3 (.list [.ref 2,.int ((j + 1 : Nat) : Int)]))[3]? = some (.list [.ref 2,.int ((j + 1 : Nat) : Int)]):=get_eq e3
 have g2 : (H.set 3 (.list [.ref 2,.int ((j + 1 : Nat) : Int)]))[2]? = some (.list (zs.map V.int)):=get_ne (by decide) e2
 refine (?_ : Sq _ _ (.nxt,_) (H.set 3 (.list [.ref 2,.int ((j + 1 : Nat) : Int)])))
 generalize hX : H.set 3 (.list [.ref 2,.int ((j + 1 : Nat) : Int)]) = X at g3 g2 ⊢
 walk_at "P"
 refine W.getI (i:=1) g3 rfl ?_
 walk_at "P"
 refine W.getI (i:=0) g3 rfl ?_
 walk_at "P"
 refine Br.dec (fun hp=>?_) (fun hp=>?_)
 ·have hj2 : j < zs.length:=by rw [List.length_map] at hp; walk_at "m"
  walk_at "P"
  refine W.getI (i:=0) g3 rfl ?_
  walk_at "P"
  have e9 : ((j + 1 : Nat) : Int) - 1 = (j : Int):=by walk_at "m"
  rw [e9]
  refine W.getI (i:=j) g2 (v:=.int zs[j]) (by rw [List.getElem?_map,List.getElem?_eq_getElem hj2]; rfl) ?_
  walk_at "P"
  refine W.ok (a:=.int (Int.fmod zs[j].natAbs k)) (H':=X) ?_ ?_
  ·refine (?_ : (if 0 < k then Pure.pure (V.int (Int.fmod (zs[j].natAbs : Int) k)) else Mp.stuck) X = _)
   rw [if_pos hk]; rfl
  walk_at "P"
  exact ⟨Int.fmod_nonneg_of_pos _ hk,Int.fmod_lt_of_pos _ hk,rfl⟩
 ·walk_at "P"
  refine W.ok (a:=.int (9 * ((j + 1 : Nat) : Int))) (H':=X) ?_ ?_
  ·refine (?_ : (if (9 : Int).natAbs < 1073741824∧((j + 1 : Nat) : Int).natAbs < 1073741824 then Pure.pure (V.int (9 * ((j + 1 : Nat) : Int))) else Mp.stuck) X = _)
   rw [if_pos ⟨by decide,by rw [Int.natAbs_natCast]; walk_at "m"⟩]; rfl
  walk_at "P"
  refine W.ok (a:=.int (Int.fmod (9 * ((j + 1 : Nat) : Int) + Int.fdiv ((j + 1 : Nat) : Int) 2 + 4) k)) (H':=X) ?_ ?_
  ·refine (?_ : (if 0 < k then Pure.pure (V.int (Int.fmod (9 * ((j + 1 : Nat) : Int) + Int.fdiv ((j + 1 : Nat) : Int) 2 + 4) k)) else Mp.stuck) X = _)
   rw [if_pos hk]; rfl
  walk_at "P"
  exact ⟨Int.fmod_nonneg_of_pos _ hk,Int.fmod_lt_of_pos _ hk,rfl⟩
theorem c20 {H : List O} {r d : Nat} {nu : V} (e1 : H[r]? = some (.inst 2 d)) (e2 : H[d]? = some (.attrs [])) : Tf 40 20 [] [.ref r,nu] H (fun v H'=>v = .none∧TT H' r d H.length (H.length + 1) nu .none [] []∧Fr [d] H H'∧H'.length = H.length + 2) (fun _ _=>False):=by
 have h1:=get_lt e1
 have h2:=get_lt e2
 have hn : d ≠ r:=ne_getD e2 e1 rfl
 have hn2 : d ≠ H.length:=by walk_at "m"
 have hn3 : d ≠ H.length + 1:=by walk_at "m"
 refine Tf.bodyL0 (F:=f20) (ρ:=[some (.ref r),some nu]) rfl rfl rfl rfl ?_
 walk_at "P"
 refine ⟨rfl,⟨?_,?_,?_,?_,rfl,by walk_at "m"⟩,?_,?_⟩
 ·exact get_ne hn (get_ne hn (get_app (get_ne hn (get_app (get_ne hn e1)))))
 ·simp only [List.length_append,List.length_set,List.length_cons,List.length_nil]
  exact get_eq (get_eq (get_app (get_eq (get_app (get_eq e2)))))
 ·refine get_ne hn2 (get_ne hn2 (get_app (get_ne hn2 (get_newL ?_))))
  rw [List.length_set]
 ·refine get_ne hn3 (get_ne hn3 (get_newL ?_))
  simp only [List.length_append,List.length_set,List.length_cons,List.length_nil]
 ·exact ((((Fr.refl.set (.inl List.mem_cons_self)).app.set (.inl List.mem_cons_self)).app.set (.inl List.mem_cons_self)).set (.inl List.mem_cons_self))
 ·simp only [List.length_append,List.length_set,List.length_cons,List.length_nil]
theorem c26 {H : List O} {r d : Nat} {a b c : V} (e1 : H[r]? = some (.inst 3 d)) (e2 : H[d]? = some (.attrs [])) : Pw 40 26 [] [.ref r,a,b,c] H .none (H.set d (.attrs [(18,a),(24,b),(25,c)])):=by
 have hn : d ≠ r:=ne_getD e2 e1 rfl
 refine Tf.bodyL0 (F:=f26) (ρ:=[some (.ref r),some a,some b,some c]) rfl rfl rfl rfl ?_
 walk_at "P"
 refine ⟨rfl,?_⟩
 simp only [List.set_set]
 rfl
theorem Fr.ln {w : List Nat} {H : List O} {a : Nat} {x : O} (h : a ∈ w) : Fr w H (H.set a x):=Fr.refl.set (.inl h)
structure SHF (H : List O) (tv : V) : Prop where
 sh : TT H 36 35 37 38 (.int (-1)) .none KS (LS tv)
 lb : TT H 81 80 82 83 (.int (-30)) .none [.bytes [105,110,115,101,114,116],.bytes [114,101,109,111,118,101],.bytes [99,111,110,99,97,116],.bytes [103,101,116,110],.bytes [109,97,120,110],.bytes [115,111,114,116]] [.ref 85,.ref 87,.ref 89,.ref 91,.ref 93,.ref 95]
 st : BI H 95 94 (.int (-35)) (.bytes [115,111,114,116]) (.fn 83)
 pr : BI H 40 39 (.int (-1)) (.bytes [112,114,105,110,116]) (.ref 16)
 cl : H[16]? = some (.clo 107 [15])
 ce : H[15]? = some (.cell (some (.ref 36)))
theorem SHF.app {H : List O} {tv : V} {x : O} (T : SHF H tv) : SHF (H ++ [x]) tv:=⟨T.sh.app,T.lb.app,⟨get_app T.st.h1,get_app T.st.h2⟩,⟨get_app T.pr.h1,get_app T.pr.h2⟩,get_app T.cl,get_app T.ce⟩
theorem KS_simp : ∀ y ∈ KS,simpV y = true:=by decide
theorem c100s {k k1 : Nat} {H : List O} {st dp : Int} {fr ar : Nat} {frs : List V} {tv : V} {Q : PQ} {E : PE} (S : HS H st dp fr frs) (T : SHF H tv) (hs : st < 1000000) (hk1 : 60 ≤ k1) (hk : k1 + 62 ≤ k)
  (hw : ∀ X,Fr [6] H X→HS X st 0 (H.length + 1) []→X.length = H.length + 2→CB k1 X st 0 (H.length + 1) [] (.fn 83) (.ref ar) Q (Heard Q)) : Tf k 100 [] [.ref 7,.ref 36,.str [116,97,98,108,101,46,115,111,114,116],.ref ar] H Q E:=by
 refine Tf.le (k:=k1 + 62) ?_ hk
 refine Tf.bodyL0 (F:=f100) (ρ:=[some (.ref 7),some (.ref 36),some (.str [116,97,98,108,101,46,115,111,114,116]),some (.ref ar),none,none,none]) rfl rfl rfl rfl ?_
 walk_at "P"
 refine Tsrc.meth ?_
 walk_at "P"
 refine (?_ : ∃ r xs,V.ref H.length = V.ref r∧(H ++ [O.list [.str [116,97,98,108,101],.str [115,111,114,116]]])[r]? = some (.list xs)∧Tfo _ _ _ _ (.seq r 0) _ (H ++ [O.list [.str [116,97,98,108,101],.str [115,111,114,116]]]) _ _)
 have gl : (H ++ [O.list [.str [116,97,98,108,101],.str [115,111,114,116]]])[H.length]? = some (.list [.str [116,97,98,108,101],.str [115,111,114,116]]):=get_new
 have ll : (H ++ [O.list [.str [116,97,98,108,101],.str [115,111,114,116]]]).length = H.length + 1:=by rw [List.length_append]; rfl
 have T1:=T.app (x:=O.list [.str [116,97,98,108,101],.str [115,111,114,116]])
 have S1:=S.app (x:=O.list [.str [116,97,98,108,101],.str [115,111,114,116]])
 have F1 : Fr [6] H (H ++ [O.list [.str [116,97,98,108,101],.str [115,111,114,116]]]):=Fr.refl.app
 generalize (H ++ [O.list [.str [116,97,98,108,101],.str [115,111,114,116]]]) = Y at gl ll T1 S1 F1 ⊢
 have a1:=T1.sh.inst
 have a2:=T1.sh.att
 have a3:=T1.lb.inst
 have a4:=T1.lb.att
 refine in2_3 _ _ rfl gl ?_
 refine Tfo.step (s1:=.seq H.length 1) (nxt_seq gl rfl) ?_
 walk_at "P"
 refine (c22 T1.sh rfl KS_simp (Nat.le_refl _)).use (by show 22 + 50 ≤ _; walk_at "m") ?_
 refine (?_ : Tas _ _ _ (.ref 81) _ _ _ _)
 walk_at "P"
 refine Tfo.step (s1:=.seq H.length 2) (nxt_seq gl rfl) ?_
 walk_at "P"
 refine (c22 T1.lb rfl (by decide) (Nat.le_refl _)).use (by show 6 + 50 ≤ _; walk_at "m") ?_
 refine (?_ : Tas _ _ _ (.ref 95) _ _ _ _)
 walk_at "P"
 refine Tfo.done (nxt_seq0 gl rfl) ?_
 refine Sq.nxt ?_
 refine t100 (k1:=k1) S1 hs T1.st hk1 (by walk_at "m") (fun X h1 h2 h3=>?_)
 rw [ll] at h2 h3 ⊢
 exact hw X (F1.trans h1) h2 h3
theorem c100p {k k1 : Nat} {H : List O} {st dp : Int} {fr ar : Nat} {frs : List V} {tv : V} {Q : PQ} {E : PE} (S : HS H st dp fr frs) (T : SHF H tv) (hs : st < 1000000) (hk1 : 60 ≤ k1) (hk : k1 + 62 ≤ k)
  (hw : ∀ X,Fr [6] H X→HS X st 0 (H.length + 1) []→X.length = H.length + 2→CB k1 X st 0 (H.length + 1) [] (.ref 16) (.ref ar) Q (Heard Q)) : Tf k 100 [] [.ref 7,.ref 36,.str [112,114,105,110,116],.ref ar] H Q E:=by
 refine Tf.le (k:=k1 + 62) ?_ hk
 refine Tf.bodyL0 (F:=f100) (ρ:=[some (.ref 7),some (.ref 36),some (.str [112,114,105,110,116]),some (.ref ar),none,none,none]) rfl rfl rfl rfl ?_
 walk_at "P"
 refine Tsrc.meth ?_
 walk_at "P"
 refine (?_ : ∃ r xs,V.ref H.length = V.ref r∧(H ++ [O.list [.str [112,114,105,110,116]]])[r]? = some (.list xs)∧Tfo _ _ _ _ (.seq r 0) _ (H ++ [O.list [.str [112,114,105,110,116]]]) _ _)
 have gl : (H ++ [O.list [.str [112,114,105,110,116]]])[H.length]? = some (.list [.str [112,114,105,110,116]]):=get_new
 have ll : (H ++ [O.list [.str [112,114,105,110,116]]]).length = H.length + 1:=by rw [List.length_append]; rfl
 have T1:=T.app (x:=O.list [.str [112,114,105,110,116]])
 have S1:=S.app (x:=O.list [.str [112,114,105,110,116]])
 have F1 : Fr [6] H (H ++ [O.list [.str [112,114,105,110,116]]]):=Fr.refl.app
 generalize (H ++ [O.list [.str [112,114,105,110,116]]]) = Y at gl ll T1 S1 F1 ⊢
 have a1:=T1.sh.inst
 have a2:=T1.sh.att
 refine in2_3 _ _ rfl gl ?_
 refine Tfo.step (s1:=.seq H.length 1) (nxt_seq gl rfl) ?_
 walk_at "P"
 refine (c22 T1.sh rfl KS_simp (Nat.le_refl _)).use (by show 22 + 50 ≤ _; walk_at "m") ?_
 refine (?_ : Tas _ _ _ (.ref 40) _ _ _ _)
 walk_at "P"
 refine Tfo.done (nxt_seq0 gl rfl) ?_
 refine Sq.nxt ?_
 refine t100 (k1:=k1) S1 hs T1.pr hk1 (by walk_at "m") (fun X h1 h2 h3=>?_)
 rw [ll] at h2 h3 ⊢
 exact hw X (F1.trans h1) h2 h3
noncomputable def eA : Mp.E:=.call (.glo (.fn 99)) [.cel 0,.cst (.int 5)]
theorem lA {c acc : Nat} {zs : List Int} (n1 : acc ≠ 3) (n2 : acc ≠ 2) (n3 : acc ≠ c) (n4 : c ≠ 3) {E : PE} {Q : Unit→List O→Prop} : ∀ (r j : Nat) (z : Int) (X : List O) (rows : List Int) (a b : Option V),X[acc]? = some (.list (rows.map V.int))→rows.length + r ≤ 100→X[3]? = some (.list [.ref 2,.int j])→X[2]? = some (.list (zs.map V.int))→X[c]? = some (.cell (some (.ref 3)))→j + r < 1000→(∀ (X' : List O) (rows' : List Int),rows'.length = rows.length + r→Fr [3,acc] X X'→X'.length = X.length→X'[acc]? = some (.list (rows'.map V.int))→X'[3]? = some (.list [.ref 2,.int ((j + r : Nat) : Int)])→Q () X')→Tco (r + 50) [c] [a,b] eA none 1 (.rng z r) acc X Q E
 | 0,j,z,X,rows,a,b,ea,hl,e3,e2,ec,hj,hQ=>Tco.done rfl (hQ X rows rfl Fr.refl rfl ea e3)
 | r + 1,j,z,X,rows,a,b,ea,hl,e3,e2,ec,hj,hQ=>by
  rw [show r + 1 + 50 = r + 50 + 1 by walk_at "m"]
  refine Tco.step (v:=.int z) (s1:=.rng (z + 1) r) rfl ?_
  unfold eA
  walk_at "P"
  refine Tf.use (c99 e3 e2 (by walk_at "m") (by decide)) (by walk_at "m") (fun v X' hv=>?_) (fun _ _ h=>h)
  (refine ex1_4 hv fun y z1q _ _ z2q=>?_; clear hv; subst z1q; subst z2q)
  have g1 : (X.set 3 (.list [.ref 2,.int ((j + 1 : Nat) : Int)]))[acc]? = some (.list (rows.map V.int)):=get_ne n1.symm ea
  refine in1_3 _ g1 (by rw [List.length_map]; walk_at "m") ?_
  have em : rows.map V.int ++ [V.int y] = (rows ++ [y]).map V.int:=by rw [List.map_append]; rfl
  rw [em]
  refine lA n1 n2 n3 n4 r (j + 1) (z + 1) _ (rows ++ [y]) a (some (.int z)) (get_eq g1) (by rw [List.length_append]; show rows.length + 1 + r ≤ 100; walk_at "m") (get_ne n1 (get_eq e3)) (get_ne n2 (get_ne (by decide) e2)) (get_ne n3 (get_ne n4.symm ec)) (by walk_at "m") (fun X' rows' h1 h2 h3 h4 h5=>?_)
  refine hQ X' rows' (by rw [h1,List.length_append]; show rows.length + 1 + r = _; walk_at "m") ?_ (by rw [h3,List.length_set,List.length_set]) h4 (by rw [h5]; congr 5; walk_at "m")
  refine Fr.trans ?_ h2
  exact (Fr.refl.set (.inl List.mem_cons_self)).set (.inl (List.mem_cons_of_mem _ List.mem_cons_self))
noncomputable def bC : List S:=[.ex (.meth (.cel 5) 46 [.bin .add (.loc 2) (.cst (.int 1)),.loc 3])]
theorem lC {cs : List Nat} {c5 ra t d ks vs : Nat} {nu mt : V} {rows : List Int} (h5 : cs[5]? = some c5) (hr : rows.length ≤ 6) (n1 : ks ≠ ra) (n2 : vs ≠ ra) {a0 a1 a4 a5 a6 : Option V} {E : PE} {Q : PF} : ∀ (R D : List Int) (X : List O) (a2 a3 : Option V),rows = D ++ R→TI X t d ks vs nu mt (D.map V.int)→X[ra]? = some (.list (rows.map V.int))→X[c5]? = some (.cell (some (.ref t)))→(∀ (X' : List O) (a2 a3 : Option V),TI X' t d ks vs nu mt (rows.map V.int)→Fr [ks,vs] X X'→X'.length = X.length→Q (.nxt,[a0,a1,a2,a3,a4,a5,a6]) X')→Tfo (R.length + 75) cs [a0,a1,a2,a3,a4,a5,a6] [.loc 2,.loc 3] (.enm ra D.length) bC X Q E
 | [],D,X,a2,a3,e,T,er,ec,hQ=>by
  rw [List.append_nil] at e
  subst e
  exact Tfo.done (nxt_enm0 er (List.length_map _)) (hQ X a2 a3 T Fr.refl rfl)
 | y :: R,D,X,a2,a3,e,T,er,ec,hQ=>by
  have x1:=T.inst
  have x2:=T.att
  have hd : D.length ≤ 6:=by rw [e,List.length_append] at hr; walk_at "m"
  have er' : X[ra]? = some (.list (D.map V.int ++ V.int y :: R.map V.int)):=by rw [er,e,List.map_append]; rfl
  refine (?_ : Tfo (R.length + 75 + 1) _ _ _ _ _ _ _ _)
  refine Tfo.step (nxt_enm er' (List.length_map _)) ?_
  unfold bC
  walk_at "P"
  have hcel : ∀ {Q : PQ} {E : PE} {k : Nat} {ρ : Lo},Q (.ref t) X→Te (k + 1) cs ρ (.cel 5) X Q E:=fun h=>Te.cel h5 ec h
  refine hcel ?_
  walk_at "P"
  have hk : (ksN 0 (D.map V.int).length).length + 54 ≤ 60 + 6:=by rw [ksN_len,List.length_map]; walk_at "m"
  have hf : fnd (.int ((D.length : Int) + 1)) (ksN 0 (D.map V.int).length) 0 = -1:=by
   have:=(fnd_ks (D.map V.int).length 0 D.length 0).2 (by rw [List.length_map]; exact Nat.le_refl _)
   rw [Nat.zero_add] at this
   exact this
  refine (c23_new T (x:=.int ((D.length : Int) + 1)) (v:=.int y) rfl (ksN_simp _ _) hk (by walk_at "m") hf rfl).use (by walk_at "m") ?_
  have T2:=TT.set_new (x:=.int ((D.length : Int) + 1)) (v:=.int y) T
  have ek : ksN 0 (D.map V.int).length ++ [.int ((D.length : Int) + 1)] = ksN 0 ((D ++ [y]).map V.int).length:=by
   rw [List.length_map,List.length_map,List.length_append]
   refine (?_ : _ = ksN 0 (D.length + 1))
   rw [ksN_snoc,Nat.zero_add]; rfl
  have ev : D.map V.int ++ [V.int y] = (D ++ [y]).map V.int:=by rw [List.map_append]; rfl
  rw [ek,ev] at T2 ⊢
  have l1:=T.keys
  have l2:=T.vals
  have q1 : ks ≠ c5:=ne_getD l1 ec rfl
  have q2 : vs ≠ c5:=ne_getD l2 ec rfl
  have ih:=lC h5 hr n1 n2 (a0:=a0) (a1:=a1) (a4:=a4) (a5:=a5) (a6:=a6) (E:=E) (Q:=Q) R (D ++ [y]) ((X.set ks (.list (ksN 0 ((D ++ [y]).map V.int).length))).set vs (.list ((D ++ [y]).map V.int))) (some (.int D.length)) (some (.int y)) (by rw [e,List.append_assoc]; rfl) T2 (get_ne n2 (get_ne n1 er)) (get_ne q2 (get_ne q1 ec)) (fun X' b2 b3 h1 h2 h3=>hQ X' b2 b3 h1 (((Fr.refl.set (.inl List.mem_cons_self)).set (.inl (List.mem_cons_of_mem _ List.mem_cons_self))).trans h2) (by rw [h3,List.length_set,List.length_set]))
  rw [List.length_append] at ih
  walk_at "P"
  exact ih
theorem intsV_map : ∀ l : List Int,intsV (l.map V.int) = some l
 | []=>rfl
 | x :: l=>by show (intsV (l.map V.int)).map (x :: ·) = _; rw [intsV_map l]; rfl
theorem eqLL_ints (a b : List Int) : eqLL (a.map V.int) (b.map V.int) = some (decide (a = b)):=by
 unfold eqLL; rw [intsV_map,intsV_map]
theorem W.sorted {H : List O} {r : Nat} {l : List Int} {E : PE} {Q : PQ} (e : H[r]? = some (.list (l.map V.int))) (hl : l.length < 64) (h : Q (.ref H.length) (H ++ [.list ((sortI l).map V.int)])) : W (bltM 5 [.ref r]) H Q E:=by
 refine W.bind (W.get e ?_)
 refine (?_ : W (if (l.map V.int).length < 64 then (opt (intsV (l.map V.int)) >>= fun is=>new (.list ((sortI is).map V.int)) >>= fun r=>Pure.pure (.ref r)) else Mp.stuck) H Q E)
 rw [if_pos (by rw [List.length_map]; exact hl),intsV_map]
 exact W.ok rfl h
theorem W.neL {H : List O} {a b : Nat} {xs ys : List V} {t : Bool} {E : PE} {Q : PQ} (e1 : H[a]? = some (.list xs)) (e2 : H[b]? = some (.list ys)) (et : eqLL xs ys = some t) (h : Q (.bool (!t)) H) : W (cmpM .ne (.ref a) (.ref b)) H Q E:=by
 refine W.bind (W.bind (W.get e1 (W.bind (W.get e2 ?_))))
 refine (?_ : W (opt (eqLL xs ys) >>= fun t=>Pure.pure (!t)) H _ E)
 rw [et]
 exact W.ok rfl (W.ok rfl h)
theorem W.eqL {H : List O} {a b : Nat} {xs ys : List V} {t : Bool} {E : PE} {Q : PQ} (e1 : H[a]? = some (.list xs)) (e2 : H[b]? = some (.list ys)) (et : eqLL xs ys = some t) (h : Q (.bool t) H) : W (cmpM .eq (.ref a) (.ref b)) H Q E:=by
 refine W.bind (W.bind (W.get e1 (W.bind (W.get e2 ?_))))
 refine (?_ : W (opt (eqLL xs ys)) H _ E)
 rw [et]
 exact W.ok rfl (W.ok rfl h)
noncomputable def eS : Mp.E:=.cmp .ne (.call (.glo (.blt 5)) [.loc 1]) (.call (.glo (.blt 5)) [.cel 0])
theorem sort_perm {l m : List Int} (h : l.Perm m) : sortI l = sortI m:=eq_of_sorted (((perm_sortI l).trans h).trans (perm_sortI m).symm) (sorted_sortI l) (sorted_sortI m)
theorem lS {c acc ra rr : Nat} {rows : List Int} (hr : rows.length < 64) {items : List V} {E : PE} {Q : Unit→List O→Prop} : ∀ (R : List V) (i : Nat) (X : List O) (a b : Option V),items.drop i = R→X[ra]? = some (.list items)→X[c]? = some (.cell (some (.ref rr)))→X[rr]? = some (.list (rows.map V.int))→(∀ v ∈ R,∃ r l,v = .ref r∧X[r]? = some (.list (l.map V.int))∧List.Perm l rows)→(∀ X',Fr [] X X'→Q () X')→Tco (R.length + 30) [c] [a,b] (.loc 1) (some eS) 1 (.seq ra i) acc X Q E
 | [],i,X,a,b,e,er,ec,err,hv,hQ=>Tco.done (nxt_seq0 er (List.getElem?_eq_none (List.drop_eq_nil_iff.mp e))) (hQ X Fr.refl)
 | y :: R,i,X,a,b,e,er,ec,err,hv,hQ=>by
  have hi : items[i]? = some y:=by
   have h:=List.getElem?_drop (xs:=items) (i:=i) (j:=0)
   rw [e] at h
   exact h.symm
  have e' : items.drop (i + 1) = R:=by rw [← List.drop_drop,e]; rfl
  (refine ex2_3 (hv _ List.mem_cons_self) fun r l z3q e1 hp=>?_; subst z3q)
  have hl:=hp.length_eq
  refine (?_ : Tco (R.length + 30 + 1) _ _ _ _ _ _ _ _ _ _)
  refine Tco.stepC (s1:=.seq ra (i + 1)) (nxt_seq er hi) ?_
  unfold eS
  walk_at "P"
  refine W.sorted e1 (by walk_at "m") ?_
  have lx : (X ++ [O.list ((sortI l).map V.int)]).length = X.length + 1:=by rw [List.length_append]; rfl
  walk_at "P"
  refine W.sorted (get_app err) hr ?_
  rw [lx]
  refine W.neL (t:=true) (get_app get_new) (get_newL lx.symm) (by rw [sort_perm hp,eqLL_ints,decide_eq_true rfl]) ?_
  walk_at "P"
  have F : Fr [] X (X ++ [O.list ((sortI l).map V.int)] ++ [.list ((sortI rows).map V.int)]):=Fr.refl.app.app
  exact lS hr R (i + 1) _ a (some (.ref r)) e' (F.get er (by intro h; cases h)) (F.get ec (by intro h; cases h)) (F.get err (by intro h; cases h)) (fun v hm=>by
   refine ex2_3 (hv v (List.mem_cons_of_mem _ hm)) fun r l q1 q2 q3=>?_
   exact in2_3 r l q1 (F.get q2 (by intro h; cases h)) q3) (fun X' h=>hQ X' (F.trans h))
theorem get_apps {H l : List O} {i : Nat} {o : O} (h : l[i]? = some o) : (H ++ l)[H.length + i]? = some o:=by
 rw [List.getElem?_append_right (Nat.le_add_right _ _),Nat.add_sub_cancel_left]; exact h
theorem Fr.apps {w : List Nat} {H l : List O} : Fr w H (H ++ l):=⟨by rw [List.length_append]; exact Nat.le_add_right _ _,fun a o e n=>by rw [List.getElem?_append_left (get_lt e)]; exact e⟩
theorem Fr.trans2 {w v : List Nat} {H X Y : List O} (h : Fr w H X) (h2 : Fr v X Y) (hs : ∀ a ∈ v,a ∈ w ∨ H.length ≤ a) : Fr w H Y:=⟨Nat.le_trans h.le h2.le,fun a o e n=>h2.eq a o (h.eq a o e n) (fun hm=>by
  rcases hs a hm with h | h
  ·exact n h
  ·have:=get_lt e; walk_at "m")⟩
theorem Tco.le {k k' : Nat} {cs : List Nat} {ρ : Lo} {elt : Mp.E} {cond : Option Mp.E} {x acc : Nat} {s : Src} {H : List O} {Q : Unit→List O→Prop} {E : PE} (h : Tco k cs ρ elt cond x s acc H Q E) (hk : k ≤ k') : Tco k' cs ρ elt cond x s acc H Q E:=⟨fun n hn=>h.run n (Nat.le_trans hk hn)⟩
theorem Tss.le {k k' : Nat} {cs : List Nat} {ρ : Lo} {b : List S} {H : List O} {Q : PF} {E : PE} (h : Tss k cs ρ b H Q E) (hk : k ≤ k') : Tss k' cs ρ b H Q E:=⟨fun n hn=>h.run n (Nat.le_trans hk hn)⟩
theorem Tfo.le {k k' : Nat} {cs : List Nat} {ρ : Lo} {ts : List Mp.T} {b : List S} {s : Src} {H : List O} {Q : PF} {E : PE} (h : Tfo k cs ρ ts s b H Q E) (hk : k ≤ k') : Tfo k' cs ρ ts s b H Q E:=⟨fun n hn=>h.run n (Nat.le_trans hk hn)⟩
theorem SHF.fr_ {H H' : List O} {tv : V} {w : List Nat} (T : SHF H tv) (F : Fr w H H') (h : ∀ a ∈ w,a = 3 ∨ a = 6 ∨ a = 8 ∨ H.length ≤ a) : SHF H' tv:=by
 have q : ∀ {a : Nat} {o : O},H[a]? = some o→a ≠ 3∧a ≠ 6∧a ≠ 8→a ∉ w:=fun e hn hm=>by
  have:=get_lt e
  have:=h _ hm
  walk_at "m"
 exact ⟨T.sh.fr_ F (q T.sh.inst (by decide)) (q T.sh.att (by decide)) (q T.sh.keys (by decide)) (q T.sh.vals (by decide)),T.lb.fr_ F (q T.lb.inst (by decide)) (q T.lb.att (by decide)) (q T.lb.keys (by decide)) (q T.lb.vals (by decide)),T.st.fr_ F (q T.st.h1 (by decide)) (q T.st.h2 (by decide)),T.pr.fr_ F (q T.pr.h1 (by decide)) (q T.pr.h2 (by decide)),F.get T.cl (q T.cl (by decide)),F.get T.ce (q T.ce (by decide))⟩
theorem W.addL {H : List O} {a b : Nat} {xs ys : List V} {E : PE} {Q : PQ} (e1 : H[a]? = some (.list xs)) (e2 : H[b]? = some (.list ys)) (hl : xs.length + ys.length ≤ 10000) (h : Q (.ref H.length) (H ++ [.list (xs ++ ys)])) : W (binM .add (.ref a) (.ref b)) H Q E:=by
 refine W.bind (W.get e1 (W.bind (W.get e2 ?_)))
 refine (?_ : W (if xs.length + ys.length ≤ 10000 then (new (.list (xs ++ ys)) >>= fun r=>Pure.pure (.ref r)) else Mp.stuck) H Q E)
 rw [if_pos hl]
 exact W.ok rfl h
theorem W.eqLB {H : List O} {a : Nat} {xs : List V} {l : List Nat} {E : PE} {Q : PQ} (e1 : H[a]? = some (.list xs)) (h : Q (.bool false) H) : W (cmpM .eq (.ref a) (.bytes l)) H Q E:=
 W.bind (W.bind (W.get e1 (W.ok rfl (W.ok rfl h))))
noncomputable def s103 : List S:=[.asg (.loc 6) (.call (.glo (.fn 101)) [.cel 5,.cel 3]),.ite (.cmp .ne (.comp (.loc 1) 1 2 [1] (.bin .add (.cel 4) (.lst [.loc 6])) (some eS)) (.lst [])) [.ret (.cst (.bool false))] [],.ite (.cmp .eq (.loc 5) (.cst (.bytes [101,110,111,117,103,104]))) [.ret (.cmp .eq (.call (.glo (.blt 0)) [.cel 4]) (.bin .add (.cel 2) (.cst (.int 1))))] [],.ret (.and [.cmp .eq (.loc 5) (.lst []),.cmp .eq (.loc 6) (.call (.glo (.blt 5)) [.cel 1]),.cmp .le (.call (.glo (.blt 0)) [.cel 4]) (.cel 2),.cmp .ge (.cel 2) (.bin .sub (.cel 3) (.cst (.int 1)))])]
theorem Tf.gen {k f : Nat} {cl : List Nat} {as : List V} {H : List O} {Q : PQ} {E : PE} (h : ∀ Q' : PQ,(∀ v H',Q v H'→Q' v H')→Tf k f cl as H Q' E) : Tf k f cl as H Q E:=h Q fun _ _ x=>x
theorem tail103 {p : SP} (P : SPok p) {z dp : Int} {frs : List V} {Y : List O} {L : List Int} {S' : List V} (I : Inv p z dp frs Y L S') {b0 b1 ra : Nat} (e1 : Y[b1]? = some (.cell (some (.ref ra)))) (er : Y[ra]? = some (.list (p.rows.map V.int))) {v5 : V} (hS : S'.length ≤ 100) (h5 : (∃ r,v5 = .ref r∧Y[r]? = some (.list [])∧L.Pairwise (· ≤ ·)∧(S'.length : Int) ≤ p.lf∧p.rows.length ≤ S'.length + 1) ∨ (v5 = .bytes [101,110,111,117,103,104]∧(S'.length : Int) = p.lf + 1)) {a0 a1 a2 a3 a4 : Option V} {Q : PQ} {E : PE} (hQ : ∀ Y',Fr [] Y Y'→Q (.bool true) Y') : Tss 300 [b0,b1,p.c0,p.c1,p.c2,p.c3] [a0,a1,a2,a3,a4,some v5,none] s103 Y (Rq Q) E:=by
 have k0:=I.fr.get P.k0 (P.out P.k0 (by intro l h; injection h) (by intro a b c h; injection h))
 have k1:=I.fr.get P.k1 (P.out P.k1 (by intro l h; injection h) (by intro a b c h; injection h))
 have k2:=I.fr.get P.k2 (P.out P.k2 (by intro l h; injection h) (by intro a b c h; injection h))
 have k3:=I.fr.get P.k3 (P.out P.k3 (by intro l h; injection h) (by intro a b c h; injection h))
 have es:=I.sn
 have hl:=I.len
 have hl6:=P.len
 unfold s103
 walk_at "P"
 refine (c101 (I.tab P) (by rw [List.length_map]; walk_at "m") (by rw [List.length_map,hl])).use (by rw [List.length_map]; walk_at "m") ?_
 have G1 : Fr [] Y (Y ++ [O.cell (some (.ref p.t))] ++ [O.list (L.map V.int)]):=Fr.refl.app.app
 have l1 : (Y ++ [O.cell (some (.ref p.t))]).length = Y.length + 1:=by rw [List.length_append]; rfl
 have e6 : (Y ++ [O.cell (some (.ref p.t))] ++ [O.list (L.map V.int)])[Y.length + 1]? = some (.list (L.map V.int)):=get_newL l1.symm
 generalize hY1 : Y ++ [O.cell (some (.ref p.t))] ++ [O.list (L.map V.int)] = Y1 at G1 e6 ⊢
 clear hY1 l1
 have m0:=G1.get k0 (by walk_at "nm")
 have m1:=G1.get k1 (by walk_at "nm")
 have m2:=G1.get k2 (by walk_at "nm")
 have f1:=G1.get e1 (by walk_at "nm")
 have fr:=G1.get er (by walk_at "nm")
 have fs:=G1.get es (by walk_at "nm")
 walk_at "P"
 refine Te.comp (l:=[b1]) rfl (Tsrc.bin ?_)
 walk_at "P"
 refine W.addL (get_app fs) get_new (by show S'.length + 1 ≤ 10000; walk_at "m") ?_
 have l2 : (Y1 ++ [O.list [.ref (Y.length + 1)]]).length = Y1.length + 1:=by rw [List.length_append]; rfl
 have l3 : (Y1 ++ [O.list [.ref (Y.length + 1)]] ++ [O.list (S' ++ [.ref (Y.length + 1)])]).length = Y1.length + 2:=by rw [List.length_append,l2]; rfl
 refine ex_lst get_new ?_
 rw [l2,l3]
 have G2 : Fr [] Y1 (Y1 ++ [O.list [.ref (Y.length + 1)]] ++ [O.list (S' ++ [.ref (Y.length + 1)])] ++ [.list []]):=Fr.refl.app.app.app
 have ei : (Y1 ++ [O.list [.ref (Y.length + 1)]] ++ [O.list (S' ++ [.ref (Y.length + 1)])] ++ [O.list []])[Y1.length + 1]? = some (.list (S' ++ [.ref (Y.length + 1)])):=get_app (get_newL l2.symm)
 have ea : (Y1 ++ [O.list [.ref (Y.length + 1)]] ++ [O.list (S' ++ [.ref (Y.length + 1)])] ++ [O.list []])[Y1.length + 2]? = some (.list []):=get_newL l3.symm
 revert G2 ei ea
 generalize Y1 ++ [O.list [.ref (Y.length + 1)]] ++ [O.list (S' ++ [.ref (Y.length + 1)])] ++ [.list []] = Y2
 revert Y2
 refine prot ?_
 intro Y2 G2 ei ea
 clear l2 l3
 refine Tco.le (lS (c:=b1) (rr:=ra) (rows:=p.rows) (by walk_at "m") (S' ++ [.ref (Y.length + 1)]) 0 Y2 none none rfl ei (G2.get f1 (by walk_at "nm")) (G2.get fr (by walk_at "nm")) (fun v hv=>?_) (fun Y3 G3=>?_)) (by rw [List.length_append]; show S'.length + 1 + 30 ≤ _; walk_at "m")
 ·rcases List.mem_append.mp hv with hv | hv
  ·refine ex2_4 (I.ok v hv) fun r l q1 q2 q3 _=>?_
   exact in2_3 r l q1 (G2.get (G1.get q2 (by walk_at "nm")) (by walk_at "nm")) q3
  ·exact in2_3 _ L (List.mem_singleton.mp hv) (G2.get e6 (by walk_at "nm")) I.perm
 have G4 : Fr [] Y1 Y3:=G2.trans G3
 have ga:=G3.get ea (by walk_at "nm")
 have n0:=G4.get m0 (by walk_at "nm")
 have n1:=G4.get m1 (by walk_at "nm")
 have n2:=G4.get m2 (by walk_at "nm")
 have g1:=G4.get f1 (by walk_at "nm")
 have gr:=G4.get fr (by walk_at "nm")
 have gs:=G4.get fs (by walk_at "nm")
 have g6:=G4.get e6 (by walk_at "nm")
 have G5 : Fr [] Y Y3:=G1.trans G4
 walk_at "P"
 refine W.neL (t:=true) (get_app ga) get_new rfl ?_
 walk_at "P"
 rcases h5 with ⟨r,rfl,q1,q2,q3,q4⟩ | ⟨rfl,q1⟩
 ·refine W.eqLB (get_app (G5.get q1 (by walk_at "nm"))) ?_
  walk_at "P"
  have l4 : (Y3 ++ [O.list []]).length = Y3.length + 1:=by rw [List.length_append]; rfl
  refine W.eqL (t:=true) (get_app (get_app (G5.get q1 (by walk_at "nm")))) get_new rfl ?_
  walk_at "P"
  refine W.sorted (get_app (get_app gr)) (by walk_at "m") ?_
  walk_at "P"
  refine W.eqL (t:=true) (get_app (get_app (get_app g6))) get_new ?_ ?_
  ·rw [eqLL_ints,show L = sortI p.rows from eq_of_sorted (I.perm.trans (perm_sortI p.rows).symm) q2 (sorted_sortI p.rows),decide_eq_true rfl]
  walk_at "P"
  refine Br.dec (fun _=>?_) (fun h=>absurd q3 h)
  walk_at "P"
  rw [decide_eq_true (by walk_at "m")]
  exact hQ _ (G5.trans Fr.refl.app.app.app)
 ·walk_at "P"
  rw [decide_eq_true q1]
  exact hQ _ (G5.trans Fr.refl.app)
theorem c103 {H : List O} {st dp : Int} {fr j : Nat} {frs : List V} {tv : V} {zs : List Int} (S : HS H st dp fr frs) (T : SHF H tv) (e3 : H[3]? = some (.list [.ref 2,.int j])) (e2 : H[2]? = some (.list (zs.map V.int))) (hj : j < 500) (hst : st < 50000) (hB : 139 ≤ H.length) (hfr : 9 ≤ fr) : Tf 345 103 [] [.ref 3,.ref 7,.ref 36] H (fun v H'=>v = .bool true∧∃ (j' : Nat) (st' dp' : Int) (fr' : Nat) (frs' : List V),j' ≤ j + 8∧st' ≤ st + 100∧HS H' st' dp' fr' frs'∧139 ≤ fr'∧H'[3]? = some (.list [.ref 2,.int j'])∧Fr [3,6] H H') (fun _ _=>False):=by
 refine Tf.gen fun Q hQ=>?_
 refine Tf.bodyL (F:=f103) (ρ:=[some (.ref 7),some (.ref 36),none,none,none,none,none]) (cv:=[some (.ref 3),none,none,none,none,none]) rfl rfl rfl ?_
 refine (?_ : Tss 344 [H.length,H.length + 1,H.length + 2,H.length + 3,H.length + 4,H.length + 5] _ _ (H ++ [.cell (some (.ref 3)),.cell none,.cell none,.cell none,.cell none,.cell none]) _ _)
 have k0 : (H ++ [O.cell (some (.ref 3)),.cell none,.cell none,.cell none,.cell none,.cell none])[H.length]? = some (.cell (some (.ref 3))):=get_apps (i:=0) rfl
 have k1 : (H ++ [O.cell (some (.ref 3)),.cell none,.cell none,.cell none,.cell none,.cell none])[H.length + 1]? = some (.cell none):=get_apps (i:=1) rfl
 have k2 : (H ++ [O.cell (some (.ref 3)),.cell none,.cell none,.cell none,.cell none,.cell none])[H.length + 2]? = some (.cell none):=get_apps (i:=2) rfl
 have k3 : (H ++ [O.cell (some (.ref 3)),.cell none,.cell none,.cell none,.cell none,.cell none])[H.length + 3]? = some (.cell none):=get_apps (i:=3) rfl
 have k4 : (H ++ [O.cell (some (.ref 3)),.cell none,.cell none,.cell none,.cell none,.cell none])[H.length + 4]? = some (.cell none):=get_apps (i:=4) rfl
 have k5 : (H ++ [O.cell (some (.ref 3)),.cell none,.cell none,.cell none,.cell none,.cell none])[H.length + 5]? = some (.cell none):=get_apps (i:=5) rfl
 have F1 : Fr [3] H (H ++ [O.cell (some (.ref 3)),.cell none,.cell none,.cell none,.cell none,.cell none]):=Fr.apps
 have F1' : Fr [] H (H ++ [O.cell (some (.ref 3)),.cell none,.cell none,.cell none,.cell none,.cell none]):=Fr.apps
 have l1 : (H ++ [O.cell (some (.ref 3)),.cell none,.cell none,.cell none,.cell none,.cell none]).length = H.length + 6:=by rw [List.length_append]; rfl
 generalize hB' : H.length = B at *
 generalize H ++ [O.cell (some (.ref 3)),.cell none,.cell none,.cell none,.cell none,.cell none] = X at *
 have y3:=F1'.get e3 (by walk_at "nm")
 have y2:=F1'.get e2 (by walk_at "nm")
 refine Tss.cons (Ts.asg ?_)
 refine Te.comp (l:=[B]) rfl (Tsrc.rng1 ?_)
 walk_at "P"
 refine Tf.use (c99 y3 y2 (by walk_at "m") (by decide)) (by walk_at "m") (fun v X1 hv=>?_) (fun _ _ h=>h.elim)
 (refine ex1_4 hv fun n z1q hn0 hn7 hX1=>?_; clear hv; subst z1q)
 walk_at "P"
 refine ⟨by walk_at "m",?_⟩
 have l2 : X1.length = B + 6:=by rw [hX1,List.length_set]; exact l1
 have F2 : Fr [3] H X1:=by rw [hX1]; exact F1.set (.inl List.mem_cons_self)
 have G2 : Fr [3] X X1:=by rw [hX1]; exact Fr.ln List.mem_cons_self
 have z3 : X1[3]? = some (.list [.ref 2,.int ((j + 1 : Nat) : Int)]):=by rw [hX1]; exact get_eq y3
 rw [l2]
 clear hX1
 refine Tco.le (lA (c:=B) (acc:=B + 6) (zs:=zs) (by walk_at "m") (by walk_at "m") (by walk_at "m") (by walk_at "m") n.toNat (j + 1) 0 (X1 ++ [.list []]) [] none none (get_newL l2.symm) (by rw [List.length_nil]; walk_at "m") (get_app z3) (get_app (G2.get y2 (by walk_at "nm"))) (get_app (G2.get k0 (by walk_at "nm"))) (by walk_at "m") (fun X2 rows hr Fa l3 er a3=>?_)) (by walk_at "m")
 have hr' : rows.length = n.toNat:=by rw [hr]; exact Nat.zero_add _
 have l3' : X2.length = B + 7:=by rw [l3,List.length_append,l2]; rfl
 have Fb : Fr [3,B + 6] X X2:=(G2.app.sub (w':=[3,B + 6]) (fun x hx=>.inl (by simp only [List.mem_cons,List.not_mem_nil,or_false] at hx ⊢; walk_at "m"))).trans Fa
 have F3 : Fr [3] H X2:=F2.app.trans2 Fa (by walk_at "ws")
 have b0:=Fb.get k0 (by walk_at "nm")
 have b1:=Fb.get k1 (by walk_at "nm")
 have b2:=Fb.get k2 (by walk_at "nm")
 have b3:=Fb.get k3 (by walk_at "nm")
 have b4:=Fb.get k4 (by walk_at "nm")
 have b5:=Fb.get k5 (by walk_at "nm")
 have d2:=Fb.get y2 (by walk_at "nm")
 clear hr l3 Fa G2 Fb z3 y2 y3 k0 k1 k2 k3 k4 k5 l1 l2 F1 F2 e3 e2 F1'
 refine Tas.cel (c:=B + 1) rfl b1 ?_
 have F4 : Fr [3] H (X2.set (B + 1) (.cell (some (.ref (B + 6))))):=F3.set (.inr (by walk_at "m"))
 have G4 : Fr [B + 1] X2 (X2.set (B + 1) (.cell (some (.ref (B + 6))))):=Fr.ln List.mem_cons_self
 have c1 : (X2.set (B + 1) (.cell (some (.ref (B + 6)))))[B + 1]? = some (.cell (some (.ref (B + 6)))):=get_eq b1
 have l4 : (X2.set (B + 1) (.cell (some (.ref (B + 6))))).length = B + 7:=by rw [List.length_set]; exact l3'
 revert F4 G4 c1 l4
 generalize X2.set (B + 1) (.cell (some (.ref (B + 6)))) = X3
 revert X3
 refine prot ?_
 intro X3 F4 G4 c1 l4
 have c0:=G4.get b0 (by walk_at "nm")
 have c2:=G4.get b2 (by walk_at "nm")
 have c3:=G4.get b3 (by walk_at "nm")
 have c4:=G4.get b4 (by walk_at "nm")
 have c5:=G4.get b5 (by walk_at "nm")
 have cr:=G4.get er (by walk_at "nm")
 have cj:=G4.get a3 (by walk_at "nm")
 have cz:=G4.get d2 (by walk_at "nm")
 clear F3 G4 b0 b1 b2 b3 b4 b5 er a3 d2 l3'
 clear X X1 X2
 walk_at "P"
 refine Tf.use (c99 cj cz (by walk_at "m") (by decide)) (by walk_at "m") (fun v X4 hv=>?_) (fun _ _ h=>h.elim)
 (refine ex1_4 hv fun lf z2q hl0 hl16 hX4=>?_; clear hv; subst z2q)
 have F5 : Fr [3] H X4:=by rw [hX4]; exact F4.set (.inl List.mem_cons_self)
 have G5 : Fr [3] X3 X4:=by rw [hX4]; exact Fr.ln List.mem_cons_self
 have gj : X4[3]? = some (.list [.ref 2,.int ((j + 1 + n.toNat + 1 : Nat) : Int)]):=by rw [hX4]; exact get_eq cj
 have l5 : X4.length = B + 7:=by rw [hX4,List.length_set]; exact l4
 clear hX4
 replace c0:=G5.get c0 (by walk_at "nm")
 replace c1:=G5.get c1 (by walk_at "nm")
 replace c2:=G5.get c2 (by walk_at "nm")
 replace c3:=G5.get c3 (by walk_at "nm")
 replace c4:=G5.get c4 (by walk_at "nm")
 replace c5:=G5.get c5 (by walk_at "nm")
 replace cr:=G5.get cr (by walk_at "nm")
 clear G5 F4 cj cz l4
 clear X3
 walk_at "P"
 have l6 : (X4 ++ [O.list []]).length = B + 8:=by rw [List.length_append,l5]; rfl
 rw [l5]
 apply Tc.inst
 ·rfl
 ·rfl
 rw [l6,List.length_map,hr']
 have l7 : (X4 ++ [O.list []] ++ [O.attrs []]).length = B + 9:=by rw [List.length_append,l6]; rfl
 refine Tf.use (c20 (r:=B + 8 + 1) (d:=B + 8) (get_newL l7.symm) (get_app (get_newL l6.symm))) (by walk_at "m") (fun v X5 hv=>?_) (fun _ _ h=>h.elim)
 (refine ex0_4 hv fun z3q Tt G6 l8=>?_; clear hv; subst z3q)
 have l9 : (X4 ++ [O.list []] ++ [O.attrs []] ++ [O.inst 2 (B + 8)]).length = B + 10:=by rw [List.length_append,l7]; rfl
 rw [l9] at Tt l8
 have F6 : Fr [3] H X5:=F5.app.app.app.trans2 G6 (by walk_at "ws")
 have G7 : Fr [B + 8] X4 X5:=(Fr.refl.app.app.app).trans G6
 have es : X5[B + 7]? = some (.list []):=G6.get (get_app (get_app (get_newL l5.symm))) (by walk_at "nm")
 replace c0:=G7.get c0 (by walk_at "nm")
 replace c1:=G7.get c1 (by walk_at "nm")
 replace c2:=G7.get c2 (by walk_at "nm")
 replace c3:=G7.get c3 (by walk_at "nm")
 replace c4:=G7.get c4 (by walk_at "nm")
 replace c5:=G7.get c5 (by walk_at "nm")
 replace cr:=G7.get cr (by walk_at "nm")
 replace gj:=G7.get gj (by walk_at "nm")
 clear G6 G7 F5 l5 l6 l7 l9
 clear X4
 refine ⟨rfl,?_⟩
 walk_at "P"
 apply Tas.cel
 ·rfl
 ·exact get_app c2
 walk_at "P"
 apply Tas.cel
 ·rfl
 ·exact get_ne (by walk_at "m") (get_app c3)
 walk_at "P"
 apply Tas.cel
 ·rfl
 ·exact get_ne (by walk_at "m") (get_ne (by walk_at "m") (get_app c4))
 walk_at "P"
 apply Tas.cel
 ·rfl
 ·exact get_ne (by walk_at "m") (get_ne (by walk_at "m") (get_ne (by walk_at "m") (get_app c5)))
 generalize hX6 : List.set (List.set (List.set (List.set (X5 ++ [_]) (B + 2) _) (B + 3) _) (B + 4) _) (B + 5) _ = X6
 have G6 : Fr [B + 2,B + 3,B + 4,B + 5] X5 X6:=by
  rw [← hX6]
  exact ((((Fr.refl.app.set (.inl (by walk_at "nm"))).set (.inl (by walk_at "nm"))).set (.inl (by walk_at "nm"))).set (.inl (by walk_at "nm")))
 have l6 : X6.length = B + 13:=by
  rw [← hX6]
  simp only [List.length_set,List.length_append,l8,List.length_cons,List.length_nil]
 have F7 : Fr [3] H X6:=F6.trans2 G6 (by walk_at "ws")
 have p2 : X6[B + 2]? = some (.cell (some (.int lf))):=by
  rw [← hX6]; exact get_ne (by walk_at "m") (get_ne (by walk_at "m") (get_ne (by walk_at "m") (get_eq (get_app c2))))
 have p3 : X6[B + 3]? = some (.cell (some (.int n.toNat))):=by
  rw [← hX6]; exact get_ne (by walk_at "m") (get_ne (by walk_at "m") (get_eq (get_ne (by walk_at "m") (get_app c3))))
 have p4 : X6[B + 4]? = some (.cell (some (.ref (B + 7)))):=by
  rw [← hX6]; exact get_ne (by walk_at "m") (get_eq (get_ne (by walk_at "m") (get_ne (by walk_at "m") (get_app c4))))
 have p5 : X6[B + 5]? = some (.cell (some (.ref (B + 9)))):=by
  rw [← hX6]; exact get_eq (get_ne (by walk_at "m") (get_ne (by walk_at "m") (get_ne (by walk_at "m") (get_app c5))))
 clear hX6
 replace c0:=G6.get c0 (by walk_at "nm")
 replace c1:=G6.get c1 (by walk_at "nm")
 replace cr:=G6.get cr (by walk_at "nm")
 replace es:=G6.get es (by walk_at "nm")
 replace gj:=G6.get gj (by walk_at "nm")
 have Tu : TI X6 (B + 9) (B + 8) (B + 10) (B + 11) (.int (-91)) .none (([] : List Int).map V.int):=Tt.fr_ G6 (by walk_at "nm") (by walk_at "nm") (by walk_at "nm") (by walk_at "nm")
 clear Tt G6 F6 c2 c3 c4 c5 l8
 clear X5
 apply Tal.nil
 apply Sq.nxt
 refine Tss.cons (Ts.fo (Tsrc.enm ?_))
 walk_at "P"
 refine in2_3 _ _ rfl cr ?_
 refine Tfo.le (lC (c5:=B + 5) (ra:=B + 6) (rows:=rows) rfl (by walk_at "m") (by walk_at "m") (by walk_at "m") rows [] X6 none none rfl Tu cr p5 (fun X7 a2 a3 Tv G7 l7=>?_)) (by walk_at "m")
 have F8 : Fr [3] H X7:=F7.trans2 G7 (by walk_at "ws")
 replace c0:=G7.get c0 (by walk_at "nm")
 replace c1:=G7.get c1 (by walk_at "nm")
 replace p2:=G7.get p2 (by walk_at "nm")
 replace p3:=G7.get p3 (by walk_at "nm")
 replace p4:=G7.get p4 (by walk_at "nm")
 replace p5:=G7.get p5 (by walk_at "nm")
 replace cr:=G7.get cr (by walk_at "nm")
 replace es:=G7.get es (by walk_at "nm")
 replace gj:=G7.get gj (by walk_at "nm")
 rw [l6] at l7
 clear Tu G7 F7 l6
 clear X6
 walk_at "P"
 refine Te.lam (l:=[B + 2,B + 3,B + 4,B + 5]) rfl rfl ?_
 have l8 : (X7 ++ [O.clo 108 [B + 2,B + 3,B + 4,B + 5]]).length = B + 14:=by rw [List.length_append,l7]; rfl
 rw [l7]
 apply Tes.nil
 apply Tc.inst
 ·rfl
 ·rfl
 rw [l8]
 have l9 : (X7 ++ [O.clo 108 [B + 2,B + 3,B + 4,B + 5]] ++ [O.attrs []]).length = B + 15:=by rw [List.length_append,l8]; rfl
 have u1 : (X7 ++ [O.clo 108 [B + 2,B + 3,B + 4,B + 5]] ++ [O.attrs []] ++ [O.inst 3 (B + 14)])[B + 14 + 1]? = some (.inst 3 (B + 14)):=get_newL l9.symm
 have u2 : (X7 ++ [O.clo 108 [B + 2,B + 3,B + 4,B + 5]] ++ [O.attrs []] ++ [O.inst 3 (B + 14)])[B + 14]? = some (.attrs []):=get_app (get_newL l8.symm)
 have u3 : (X7 ++ [O.clo 108 [B + 2,B + 3,B + 4,B + 5]] ++ [O.attrs []] ++ [O.inst 3 (B + 14)])[B + 13]? = some (.clo 108 [B + 2,B + 3,B + 4,B + 5]):=get_app (get_app (get_newL l7.symm))
 rw [show iniT 3 = 26 from rfl]
 refine (c26 u1 u2).use (Nat.le_of_ble_eq_true rfl) ?_
 refine ⟨rfl,?_⟩
 have Bo : BI ((X7 ++ [O.clo 108 [B + 2,B + 3,B + 4,B + 5]] ++ [O.attrs []] ++ [O.inst 3 (B + 14)]).set (B + 14) (.attrs [(18,V.int (-92)),(24,.bytes [111,114,100,101,114]),(25,.ref (B + 13))])) (B + 15) (B + 14) (.int (-92)) (.bytes [111,114,100,101,114]) (.ref (B + 13)):=⟨get_ne (by walk_at "m") u1,get_eq u2⟩
 have u4 : ((X7 ++ [O.clo 108 [B + 2,B + 3,B + 4,B + 5]] ++ [O.attrs []] ++ [O.inst 3 (B + 14)]).set (B + 14) (.attrs [(18,V.int (-92)),(24,.bytes [111,114,100,101,114]),(25,.ref (B + 13))]))[B + 13]? = some (.clo 108 [B + 2,B + 3,B + 4,B + 5]):=get_ne (by walk_at "m") u3
 have l10 : ((X7 ++ [O.clo 108 [B + 2,B + 3,B + 4,B + 5]] ++ [O.attrs []] ++ [O.inst 3 (B + 14)]).set (B + 14) (.attrs [(18,V.int (-92)),(24,.bytes [111,114,100,101,114]),(25,.ref (B + 13))])).length = B + 16:=by rw [List.length_set,List.length_append,l9]; rfl
 have G8 : Fr [] X7 ((X7 ++ [O.clo 108 [B + 2,B + 3,B + 4,B + 5]] ++ [O.attrs []] ++ [O.inst 3 (B + 14)]).set (B + 14) (.attrs [(18,V.int (-92)),(24,.bytes [111,114,100,101,114]),(25,.ref (B + 13))])):=Fr.refl.app.app.app.set (.inr (by walk_at "m"))
 revert Bo u4 l10 G8
 generalize (X7 ++ [O.clo 108 [B + 2,B + 3,B + 4,B + 5]] ++ [O.attrs []] ++ [O.inst 3 (B + 14)]).set (B + 14) (.attrs [(18,V.int (-92)),(24,.bytes [111,114,100,101,114]),(25,.ref (B + 13))]) = X8
 revert X8
 refine prot ?_
 intro X8 Bo u4 l10 G8
 clear u1 u2 u3 l8 l9
 have F9 : Fr [3] H X8:=F8.trans2 G8 (by walk_at "ws")
 replace c0:=G8.get c0 (by walk_at "nm")
 replace c1:=G8.get c1 (by walk_at "nm")
 replace p2:=G8.get p2 (by walk_at "nm")
 replace p3:=G8.get p3 (by walk_at "nm")
 replace p4:=G8.get p4 (by walk_at "nm")
 replace p5:=G8.get p5 (by walk_at "nm")
 replace cr:=G8.get cr (by walk_at "nm")
 replace es:=G8.get es (by walk_at "nm")
 replace gj:=G8.get gj (by walk_at "nm")
 have Tw:=Tv.fr_ G8 (by walk_at "nm") (by walk_at "nm") (by walk_at "nm") (by walk_at "nm")
 clear Tv F8 G8 l7
 clear X7
 refine (?_ : Tas _ _ _ (.ref (B + 15)) _ _ _ _)
 walk_at "P"
 have F10 : Fr [3] H (X8 ++ [O.list [.ref (B + 9),.ref (B + 15)]]):=F9.app
 have har : (X8 ++ [O.list [.ref (B + 9),.ref (B + 15)]])[B + 16]? = some (.list [.ref (B + 9),.ref (B + 15)]):=get_newL l10.symm
 have l11 : (X8 ++ [O.list [.ref (B + 9),.ref (B + 15)]]).length = B + 17:=by rw [List.length_append,l10]; rfl
 have G9 : Fr [] X8 (X8 ++ [O.list [.ref (B + 9),.ref (B + 15)]]):=Fr.refl.app
 rw [l10]
 revert F10 har l11 G9
 generalize X8 ++ [O.list [.ref (B + 9),.ref (B + 15)]] = X9
 revert X9
 refine prot ?_
 intro X9 F10 har l11 G9
 have S9 : HS X9 st dp fr frs:=S.fr_ F10 (by walk_at "nm") (by walk_at "nm") (by walk_at "nm") (by walk_at "nm") (by walk_at "nm")
 have T9 : SHF X9 tv:=T.fr_ F10 (by walk_at "ws")
 refine c100s S9 T9 (by walk_at "m") (k1:=240) (by decide) (by decide) (fun X Fx Sx lx Hc Fc Sc _=>?_)
 rw [l11] at lx Sx Fc Sc ⊢
 have Gc : Fr [6,B + 17 + 1] X8 Hc:=(((Fr.refl (w:=[6,B + 17 + 1]) (H:=X8)).trans2 G9 (by walk_at "ws")).trans2 Fx (by walk_at "ws")).trans2 Fc (by walk_at "ws")
 have hcl : B + 19 ≤ Hc.length:=by have:=Fc.le; walk_at "m"
 have P : SPok (SP.mk Hc (B + 9) (B + 8) (B + 10) (B + 11) (B + 7) (B + 17 + 1) (B + 15) (B + 14) (B + 13) (B + 2) (B + 3) (B + 4) (B + 5) (.int (-91)) .none (.int (-92)) (.bytes [111,114,100,101,114]) rows lf):=by
  refine ⟨Gc.get Tw.inst (by walk_at "nm"),Gc.get Tw.att (by walk_at "nm"),?_,Gc.get Bo.h1 (by walk_at "nm"),Gc.get Bo.h2 (by walk_at "nm"),Gc.get u4 (by walk_at "nm"),Gc.get p2 (by walk_at "nm"),?_,Gc.get p4 (by walk_at "nm"),Gc.get p5 (by walk_at "nm"),⟨_,Gc.get es (by walk_at "nm")⟩,⟨_,Gc.get Tw.vals (by walk_at "nm")⟩,⟨_,Sc.hf⟩,⟨_,_,_,Sc.h6⟩,Sc.h7,Sc.h5,Sc.h4,?_,?_,?_,?_,?_,?_,by show rows.length ≤ 6; walk_at "m"⟩
  ·have h:=Gc.get Tw.keys (by walk_at "nm")
   rw [List.length_map] at h
   exact h
  ·refine (?_ : Hc[B + 3]? = some (.cell (some (.int rows.length))))
   rw [hr']
   exact Gc.get p3 (by walk_at "nm")
  ·show B + 10 ≠ B + 11; walk_at "m"
  ·show B + 10 ≠ B + 7; walk_at "m"
  ·show B + 10 ≠ B + 17 + 1; walk_at "m"
  ·show B + 7 ≠ B + 11; walk_at "m"
  ·show B + 7 ≠ B + 17 + 1; walk_at "m"
  ·show B + 11 ≠ B + 17 + 1; walk_at "m"
 have i1:=Gc.get c1 (by walk_at "nm")
 have ir:=Gc.get cr (by walk_at "nm")
 have ij:=Gc.get gj (by walk_at "nm")
 have FH : Fr [3,6] H Hc:=(((Fr.refl (w:=[3,6]) (H:=H)).trans2 F10 (by walk_at "ws")).trans2 Fx (by walk_at "ws")).trans2 Fc (by walk_at "ws")
 have hx9:=Fc.get (Fx.get har (by walk_at "nm")) (by walk_at "nm")
 have es':=Gc.get es (by walk_at "nm")
 have ev':=Gc.get Tw.vals (by walk_at "nm")
 clear Gc Fx Fc G9 F10 F9 c0 c1 p2 p3 p4 p5 cr es gj u4 Tw Bo S9 T9 har Sx lx
 generalize hp : SP.mk Hc (B + 9) (B + 8) (B + 10) (B + 11) (B + 7) (B + 17 + 1) (B + 15) (B + 14) (B + 13) (B + 2) (B + 3) (B + 4) (B + 5) (.int (-91)) .none (.int (-92)) (.bytes [111,114,100,101,114]) rows lf = p at P
 have hp0 : p.X0 = Hc:=by rw [← hp]
 have hpw : p.w = [6,B + 17 + 1,B + 7,B + 11]:=by rw [← hp]; rfl
 have hpr : p.rows = rows:=by rw [← hp]
 have hpl : p.lf = lf:=by rw [← hp]
 have hpf : p.fr = B + 17 + 1:=by rw [← hp]
 have hps : p.sn = B + 7:=by rw [← hp]
 have hpv : p.vs = B + 11:=by rw [← hp]
 have hpt : p.t = B + 9:=by rw [← hp]
 have hpo : p.ob = B + 15:=by rw [← hp]
 have hpc : [B,B + 1,B + 2,B + 3,B + 4,B + 5] = [B,B + 1,p.c0,p.c1,p.c2,p.c3]:=by rw [← hp]
 clear hp
 have fin : ∀ {z dpY : Int} {frsY : List V} {Y : List O} {L' : List Int} {S' : List V} {v5 : V},Inv p z dpY frsY Y L' S'→z ≤ st + 100→S'.length ≤ 100→((∃ r,v5 = .ref r∧Y[r]? = some (.list [])∧L'.Pairwise (· ≤ ·)∧(S'.length : Int) ≤ p.lf∧p.rows.length ≤ S'.length + 1) ∨ (v5 = .bytes [101,110,111,117,103,104]∧(S'.length : Int) = p.lf + 1))→Tss 339 [B,B + 1,B + 2,B + 3,B + 4,B + 5] [some (.ref 7),some (.ref 36),a2,a3,some (.ref (B + 15)),some v5,none] s103 Y (Rq Q) (fun _ _=>False):=by
  intro z dpY frsY Y L' S' v5 I hz hS h5
  have FY:=I.fr
  rw [hp0,hpw] at FY
  rw [hpc]
  refine Tss.le (tail103 P I (b0:=B) (b1:=B + 1) (ra:=B + 6) (FY.get i1 (by walk_at "nm")) (by rw [hpr]; exact FY.get ir (by walk_at "nm")) hS h5 (fun Y' GY=>?_)) (by decide)
  refine hQ _ _ ⟨rfl,j + 1 + n.toNat + 1,z,dpY,p.fr,frsY,by walk_at "m",hz,I.hs.fr_ GY (by walk_at "nm") (by walk_at "nm") (by walk_at "nm") (by walk_at "nm") (by walk_at "nm"),by rw [hpf]; walk_at "m",GY.get (FY.get ij (by walk_at "nm")) (by walk_at "nm"),?_⟩
  exact (FH.trans2 FY (by walk_at "ws")).trans2 GY (by walk_at "ws")
 have I0 : Inv p (st + 1) (0 + 8) ([] ++ [.ref (X.length + 3)]) Hc rows []:=⟨by rw [hp0]; exact Fr.refl,by rw [hpf]; exact Sc,by rw [hps]; exact es',by rw [hpv]; exact ev',by rw [hpr],fun v hv=>by cases hv⟩
 apply Tc.fn
 ·rfl
 refine Tf.use (c83 P (s0:=st + 1) (by walk_at "m") (by walk_at "m") (by walk_at "m") (by decide) (Nat.le_of_ble_eq_true rfl) I0 (by rw [hpt,hpo]; exact hx9)) (by decide) (fun v X' hv=>?_) (fun e X' he=>?_)
 ·(refine ex3_7 hv fun r L' S' z4q q1 q2 q3 I' q4 q5=>?_; clear hv; subst z4q)
  have I'h:=I'.hs
  have hr0 : B + 19 ≤ r:=by rw [hp0] at q2; walk_at "m"
  rw [hpf] at I'h
  refine in1_2 (st + 1 + S'.length) I'h ?_
  have IY : Inv p (st + 1 + S'.length) 0 [] ((X'.set (B + 17 + 1) (.list [])).set 6 (hostA (st + 1 + S'.length) (B + 17 + 1) 0)) L' S':=by
   have I's:=I'.sn
   have I'v:=I'.vs
   have hfr:=P.n5
   have hfv:=P.n6
   refine I'.step P ((Fr.refl.set (.inl (by rw [hpw]; walk_at "nm"))).set (.inl (by rw [hpw]; walk_at "nm"))) (by rw [hpf]; exact I'h.setf.set6) (get_ne (by walk_at "m") (get_ne (by walk_at "m") I's)) (get_ne (by walk_at "m") (get_ne (by walk_at "m") I'v)) (List.Perm.refl _) (fun v h=>.inl h)
  have hq:=fin IY (by walk_at "m") (by walk_at "m") (.inl ⟨r,rfl,get_ne (by walk_at "m") (get_ne (by walk_at "m") q1),q3,q4,q5⟩)
  walk_at "p1"
  apply Sq.nxt
  exact hq
 ·(refine ex2_2 he fun L' m z5q h5=>?_; clear he; obtain ⟨h1,dp',frs',S',d,l,h2,IY,h3,h4⟩:=z5q)
  refine in3_3 d _ l h3 h4 ?_
  have hq:=fin IY (by walk_at "m") (by walk_at "m") (.inr ⟨rfl,by walk_at "m"⟩)
  walk_at "p1"
  apply Sq.nxt
  exact hq
noncomputable def b59 : List S:=[.asg (.loc 6) (.meth (.loc 0) 37 [.loc 4,.lst [.loc 5],.cst (.bytes [])]),.asg (.loc 7) (.ite (.cmp .gt (.call (.glo (.blt 0)) [.loc 6]) (.cst (.int 0))) (.call (.glo (.fn 16)) [.sub (.loc 6) (.cst (.int 0))]) (.cst .none)),.ite (.cmp .is (.loc 7) (.cst .none)) [.ex (.meth (.loc 0) 44 [.cst (.bytes [39,116,111,115,116,114,105,110,103,39,32,109,117,115,116,32,114,101,116,117,114,110,32,97,32,115,116,114,105,110,103,32,116,111,32,39,112,114,105,110,116,39])])] [],.ex (.meth (.loc 3) 1000 [.loc 7])]
theorem c16 {H : List O} {t : List Nat} : Pu 20 16 [] [.bytes t] H (.bytes t):=Pu.of_eq fun m=>rfl
theorem l59 {J : PE} {tv : V} {args : List V} {tx ra : Nat} {t : List Nat} {a1 a2 : Option V} {E : PE} {Q : PF} (hn : args.length ≤ 3)
  (hJ : ∀ i X x,args[i]? = some x→J i X→∃ st dp fr,X[7]? = some (.inst 5 6)∧X[6]? = some (hostA st fr dp)∧X[ra]? = some (.list args)∧Tf 200 43 [] [.ref 7,tv,.ref X.length,.bytes []] (X ++ [.list [x]]) (fun v X'=>∃ r,v = .ref r∧X'[r]? = some (.list [.bytes t])∧X'[tx]? = some (.list (List.replicate i (.bytes t)))∧J (i + 1) (X'.set tx (.list (List.replicate (i + 1) (.bytes t))))) E)
  (hr : ∀ i X,J i X→X[ra]? = some (.list args))
  (hQ : ∀ X' a5 a6 a7,J args.length X'→Q (.nxt,[some (.ref 7),a1,a2,some (.ref tx),some tv,a5,a6,a7]) X') : ∀ (R : List V) (i : Nat) (X : List O) (a5 a6 a7 : Option V),args.drop i = R→i ≤ args.length→J i X→Tfo (R.length + 220) [] [some (.ref 7),a1,a2,some (.ref tx),some tv,a5,a6,a7] [.loc 5] (.seq ra i) b59 X Q E
 | [],i,X,a5,a6,a7,e,hi,j=>by
  have hl:=List.drop_eq_nil_iff.mp e
  have hi' : i = args.length:=Nat.le_antisymm hi hl
  subst hi'
  exact Tfo.done (nxt_seq0 (hr _ X j) (List.getElem?_eq_none hl)) (hQ X _ _ _ j)
 | y :: R,i,X,a5,a6,a7,e,hi,j=>by
  have hy : args[i]? = some y:=by
   have h:=List.getElem?_drop (xs:=args) (i:=i) (j:=0)
   rw [e] at h
   exact h.symm
  have e' : args.drop (i + 1) = R:=by rw [← List.drop_drop,e]; rfl
  have hi3:=(List.getElem?_eq_some_iff.mp hy).1
  refine ex3_4 (hJ i X y hy j) fun st dp fr x7 x6 xr hc=>?_
  unfold hostA at x6
  refine (?_ : Tfo (R.length + 220 + 1) _ _ _ _ _ _ _ _)
  refine Tfo.step (s1:=.seq ra (i + 1)) (nxt_seq xr hy) ?_
  unfold b59
  walk_at "P"
  refine Tf.use hc (by walk_at "m") (fun v X' hv=>?_) (fun _ _ h=>h)
  (refine ex1_4 hv fun r z1q q1 q2 q3=>?_; clear hv; subst z1q)
  walk_at "P"
  refine W.getI (i:=0) q1 rfl ?_
  walk_at "P"
  refine c16.use (by walk_at "m") ?_
  walk_at "P"
  refine W.app q2 (by rw [List.length_replicate]; walk_at "m") ?_
  have er : List.replicate i (V.bytes t) ++ [V.bytes t] = List.replicate (i + 1) (V.bytes t):=by rw [List.replicate_succ']
  rw [er]
  walk_at "P"
  exact l59 hn hJ hr hQ R (i + 1) _ _ _ _ e' hi3 q3
theorem W.join {H : List O} {r n : Nat} {t : List Nat} {E : PE} {Q : PQ} (e : H[r]? = some (.list (List.replicate n (.bytes t)))) (hn : n < 4) (ht : t.length ≤ 1000) (h : Q (.bytes (joinB [9] (List.replicate n t))) H) : W (bltMeth (.bytes [9]) 1002 [.ref r]) H Q E:=by
 refine W.bind (W.get e ?_)
 refine (?_ : W (if (List.replicate n (V.bytes t)).length < 4 then (opt (flatB (List.replicate n (V.bytes t))) >>= fun l=>if [9].length ≤ 1000∧(l.all fun x=>Nat.ble x.length 1000) = true then Pure.pure (V.bytes (joinB [9] l)) else Mp.stuck) else Mp.stuck) H Q E)
 rw [if_pos (by rw [List.length_replicate]; exact hn)]
 have hf : flatB (List.replicate n (V.bytes t)) = some (List.replicate n t):=by
  clear e h hn
  induction n with
  | zero=>rfl
  | succ n ih=>show (flatB (List.replicate n (V.bytes t))).map (t :: ·) = _; rw [ih]; rfl
 rw [hf]
 refine W.bind (W.ok (m:=opt (some (List.replicate n t))) rfl ?_)
 rw [if_pos ⟨by decide,List.all_eq_true.mpr fun x hx=>by rw [(List.mem_replicate.mp hx).2]; exact Nat.ble_eq.mpr ht⟩]
 exact W.ok rfl h
theorem c59 {J : PE} {X : List O} {tv : V} {args : List V} {ra : Nat} {t : List Nat} {E : PE} {Q : PQ} (T : TT X 36 35 37 38 (.int (-1)) .none KS (LS tv)) (ht : t.length ≤ 1000) (hn : args.length ≤ 3)
  (j0 : ∀ X0,Fr [] X X0→X0[X.length]? = some (.list [])→J 0 X0)
  (hJ : ∀ i X' x,args[i]? = some x→J i X'→∃ st dp fr,X'[7]? = some (.inst 5 6)∧X'[6]? = some (hostA st fr dp)∧X'[ra]? = some (.list args)∧Tf 200 43 [] [.ref 7,tv,.ref X'.length,.bytes []] (X' ++ [.list [x]]) (fun v X''=>∃ r,v = .ref r∧X''[r]? = some (.list [.bytes t])∧X''[X.length]? = some (.list (List.replicate i (.bytes t)))∧J (i + 1) (X''.set X.length (.list (List.replicate (i + 1) (.bytes t))))) E)
  (hr : ∀ i X',J i X'→X'[ra]? = some (.list args))
  (hQ : ∀ X',J args.length X'→∃ st dp fr outs,X'[7]? = some (.inst 5 6)∧X'[6]? = some (hostA st fr dp)∧X'[8]? = some (.list outs)∧outs.length < 1000∧X'[X.length]? = some (.list (List.replicate args.length (.bytes t)))∧Q (.ref X'.length) (X'.set 8 (.list (outs ++ [.bytes (joinB [9] (List.replicate args.length t))])) ++ [.list []])) : Tf 240 59 [] [.ref 7,.ref ra,.ref 36] X Q E:=by
 have x1:=T.inst
 have x2:=T.att
 refine Tf.bodyL0 (F:=f59) (ρ:=[some (.ref 7),some (.ref ra),some (.ref 36),none,none,none,none,none]) rfl rfl rfl rfl ?_
 walk_at "P"
 refine (c22 T.app rfl KS_simp (Nat.le_refl _)).use (by decide) ?_
 refine (?_ : Tes _ _ _ [] _ _ _)
 walk_at "P"
 have F0 : Fr [] X (X ++ [O.list []] ++ [O.tup [.ref X.length,getV KS (LS tv) (.bytes [116,111,115,116,114,105,110,103])]]):=Fr.refl.app.app
 have hj:=j0 _ F0 (get_app get_new)
 refine Tsrc.loc rfl (hr 0 _ hj) ?_
 refine Tfo.le (l59 (tv:=tv) (ra:=ra) (tx:=X.length) hn hJ hr (fun X' b5 b6 b7 jn=>?_) args 0 _ none none none rfl (Nat.zero_le _) hj) (by walk_at "m")
 refine ex4_6 (hQ X' jn) fun st dp fr outs y7 y6 y8 yl yt q=>?_
 unfold hostA at y6
 walk_at "P"
 refine W.join yt (by walk_at "m") ht ?_
 walk_at "P"
 rw [List.length_set]
 exact q
theorem c104 {H : List O} {tl : Nat} {tv lt : V} {S : List V} (T : TT H 36 35 37 38 (.int (-1)) .none KS (LS tv)) (e : H[tl]? = some (.list S)) (hS : S.length < 100) (hn : tl ≠ 37) (hn2 : tl ≠ 38) : Pw 100 104 [] [.ref 36,lt,.ref tl] H (.ref H.length) (((H.set tl (.list (S ++ [.int 1]))).set 38 (.list (LS lt))) ++ [.list [.bytes [97,98]]]):=by
 refine Tf.bodyL0 (F:=f104) (ρ:=[some (.ref 36),some lt,some (.ref tl)]) rfl rfl rfl rfl ?_
 walk_at "P"
 have T1 : TT (H.set tl (.list (S ++ [.int 1]))) 36 35 37 38 (.int (-1)) .none KS (LS tv):=T.set_ (ne_getD e T.inst rfl) (ne_getD e T.att rfl) hn hn2
 have x1:=T1.inst
 have x2:=T1.att
 walk_at "P"
 refine (c23_old T1 (j:=2) rfl KS_simp (Nat.le_refl _) rfl).use (by decide) ?_
 walk_at "P"
 refine ⟨by simp only [List.length_set],rfl⟩
theorem told_call {X : List O} {st dp : Int} {fr tb tbd tc b0 b1 b2 tl : Nat} {frs S : List V} {nu nm tv lt ag : V} {E : PE} (Sx : HS X st dp fr frs) (hst : st < 1000000) (hd : dp + 8 ≤ 820) (hf : frs.length < 1000) (B : BI X tb tbd nu nm (.ref tc)) (ec : X[tc]? = some (.clo 110 [b1,b2,b0])) (e0 : X[b0]? = some (.cell (some (.ref 36)))) (e1 : X[b1]? = some (.cell (some (.ref tl)))) (e2 : X[b2]? = some (.cell (some lt))) (el : X[tl]? = some (.list S)) (hS : S.length < 100) (T : TT X 36 35 37 38 (.int (-1)) .none KS (LS tv)) (n1 : tl ≠ 37) (n2 : tl ≠ 38) (n3 : tl ≠ fr) (n4 : fr ≠ 38) (n5 : fr ≠ 37) : Tf 200 43 [] [.ref 7,.ref tb,ag,.bytes []] X (fun v X'=>∃ r,v = .ref r∧X'[r]? = some (.list [.bytes [97,98]])∧X.length ≤ r∧Fr [6,fr,tl,38] X X'∧HS X' (st + 1) dp fr frs∧X'[tl]? = some (.list (S ++ [.int 1]))∧TT X' 36 35 37 38 (.int (-1)) .none KS (LS lt)) E:=by
 have q6 : ∀ {a : Nat} {o : O},X[a]? = some o→(∀ l,o ≠ .list l)→(∀ a b c,o ≠ hostA a b c)→a ∉ [6,fr]:=fun e h1 h2 hm=>by
  simp only [List.mem_cons,List.not_mem_nil,or_false] at hm
  rcases hm with rfl | rfl
  ·exact h2 _ _ _ (Option.some.inj (e.symm.trans Sx.h6))
  ·exact h1 _ (Option.some.inj (e.symm.trans Sx.hf))
 have nl6 : tl ≠ 6:=ne_get el Sx.h6 (by intro h; injection h)
 have n38 : (38 : Nat) ≠ 6:=by decide
 refine c43 Sx hst hd hf B.h1 B.h2 (k1:=120) (by decide) (by decide) (fun Hc Fc Sc _=>?_)
 have gc:=Fc.get ec (q6 ec (by intro l h; injection h) (by intro a b c h; injection h))
 have g0:=Fc.get e0 (q6 e0 (by intro l h; injection h) (by intro a b c h; injection h))
 have g1:=Fc.get e1 (q6 e1 (by intro l h; injection h) (by intro a b c h; injection h))
 have g2:=Fc.get e2 (q6 e2 (by intro l h; injection h) (by intro a b c h; injection h))
 have gl:=Fc.get el (by walk_at "nm")
 have Tc' : TT Hc 36 35 37 38 (.int (-1)) .none KS (LS tv):=T.fr_ Fc (q6 T.inst (by intro l h; cases h) (by intro a b c h; cases h)) (q6 T.att (by intro l h; cases h) (by intro a b c h; cases h)) (by walk_at "nm") (by walk_at "nm")
 apply Tc.clo gc
 ·rfl
 refine Tf.bodyR (F:=f110) (ρ:=[some (.ref 7),some ag]) (cv:=[]) rfl rfl rfl ?_
 refine (?_ : Te _ [b1,b2,b0] _ _ (Hc ++ []) _ _)
 rw [List.append_nil]
 walk_at "P"
 refine (c104 Tc' gl hS n1 n2).use (by decide) ?_
 have hcl:=Fc.le
 have h38 : Hc[38]? = some (.list (LS tv)):=Tc'.vals
 have Sy : HS (((Hc.set tl (.list (S ++ [.int 1]))).set 38 (.list (LS lt))) ++ [.list [.bytes [97,98]]]) (st + 1) (dp + 8) fr (frs ++ [.ref (X.length + 3)]):=by
  have m7:=ne_get gl Sc.h7 (by intro h; injection h)
  have m5:=ne_get gl Sc.h5 (by intro h; injection h)
  have m4:=ne_get gl Sc.h4 (by intro h; injection h)
  exact ⟨get_app (get_ne (by decide) (get_ne m7 Sc.h7)),get_app (get_ne (by decide) (get_ne nl6 Sc.h6)),get_app (get_ne (by decide) (get_ne m5 Sc.h5)),get_app (get_ne (by decide) (get_ne m4 Sc.h4)),get_app (get_ne n4.symm (get_ne n3 Sc.hf))⟩
 refine ⟨st + 1,Sy,Hc.length,rfl,?_,hcl,?_,Sy.setf.set6,?_,?_⟩
 ·have hlt : fr < Hc.length:=get_lt Sc.hf
  have h6 : 6 < Hc.length:=get_lt Sc.h6
  refine get_ne (by walk_at "m") (get_ne (by walk_at "m") (get_newL ?_))
  simp only [List.length_set]
 ·refine Fr.set (Fr.set (Fr.app (Fr.set (Fr.set (Fc.sub (w':=[6,fr,tl,38]) (by walk_at "ws")) ?_) ?_)) ?_) ?_
  ·exact .inl (by walk_at "nm")
  ·exact .inl (by walk_at "nm")
  ·exact .inl (by walk_at "nm")
  ·exact .inl (by walk_at "nm")
 ·exact get_ne nl6.symm (get_ne n3.symm (get_app (get_ne n2.symm (get_eq gl))))
 ·have T1 : TT (Hc.set tl (.list (S ++ [.int 1]))) 36 35 37 38 (.int (-1)) .none KS (LS tv):=Tc'.set_ (ne_getD gl Tc'.inst rfl) (ne_getD gl Tc'.att rfl) n1 n2
  have T2 : TT ((Hc.set tl (.list (S ++ [.int 1]))).set 38 (.list (LS lt))) 36 35 37 38 (.int (-1)) .none KS (LS lt):=T1.set_old (j:=2) (v:=lt)
  have T3:=T2.app (x:=.list [.bytes [97,98]])
  have mf1:=ne_get Sy.hf T3.inst (by intro h; injection h)
  have mf2:=ne_get Sy.hf T3.att (by intro h; injection h)
  exact (T3.set_ mf1 mf2 n5 n4).set_ (by decide) (by decide) (by decide) (by decide)
theorem later_call {X : List O} {st dp : Int} {fr tb tbd tc : Nat} {frs : List V} {nu nm ag : V} {E : PE} (Sx : HS X st dp fr frs) (hst : st < 1000000) (hd : dp + 8 ≤ 820) (hf : frs.length < 1000) (B : BI X tb tbd nu nm (.ref tc)) (ec : X[tc]? = some (.clo 109 [])) : Tf 200 43 [] [.ref 7,.ref tb,ag,.bytes []] X (fun v X'=>∃ r,v = .ref r∧X'[r]? = some (.list [.bytes [108,97,116,101,114]])∧X.length ≤ r∧Fr [6,fr] X X'∧HS X' (st + 1) dp fr frs) E:=by
 have q6 : ∀ {a : Nat} {o : O},X[a]? = some o→(∀ l,o ≠ .list l)→(∀ a b c,o ≠ hostA a b c)→a ∉ [6,fr]:=fun e h1 h2 hm=>by
  simp only [List.mem_cons,List.not_mem_nil,or_false] at hm
  rcases hm with rfl | rfl
  ·exact h2 _ _ _ (Option.some.inj (e.symm.trans Sx.h6))
  ·exact h1 _ (Option.some.inj (e.symm.trans Sx.hf))
 refine c43 Sx hst hd hf B.h1 B.h2 (k1:=120) (by decide) (by decide) (fun Hc Fc Sc _=>?_)
 have gc:=Fc.get ec (q6 ec (by intro l h; injection h) (by intro a b c h; injection h))
 apply Tc.clo gc
 ·rfl
 refine Tf.bodyR (F:=f109) (ρ:=[some (.ref 7),some ag]) (cv:=[]) rfl rfl rfl ?_
 refine (?_ : Te _ [] _ _ (Hc ++ []) _ _)
 rw [List.append_nil]
 walk_at "P"
 have hcl:=Fc.le
 have Sy:=Sc.app (x:=.list [.bytes [108,97,116,101,114]])
 have hlt : fr < Hc.length:=get_lt Sc.hf
 have h6 : 6 < Hc.length:=get_lt Sc.h6
 refine ⟨st + 1,Sy,Hc.length,rfl,?_,hcl,?_,Sy.setf.set6⟩
 ·exact get_ne (by walk_at "m") (get_ne (by walk_at "m") get_new)
 ·exact (Fc.app.set (.inl (by walk_at "nm"))).set (.inl (by walk_at "nm"))
noncomputable def nilMsg : List Nat:=[97,116,116,101,109,112,116,32,116,111,32,99,97,108,108,32,97,32,110,105,108,32,118,97,108,117,101]
theorem c40 {H : List O} {h m : V} : Pu 30 40 [] [h,.none,m] H .none:=Pu.of_eq fun _=>rfl
theorem c29n {H : List O} : Pu 30 29 [] [.none] H (.bool false):=Pu.of_eq fun _=>rfl
theorem c35 {H : List O} {st dp : Int} {fr f0 : Nat} (S : HS H st dp fr [.ref (f0 + 3)]) (C : FrameAt H f0) : Pu 40 35 [] [.ref 7,.int 0] H (.bytes []):=by
 have e7:=S.h7; have e6:=S.h6; have ef:=S.hf
 unfold hostA at e6
 (refine ex1_3 C fun fs c1 c2 c3=>?_; clear C)
 refine Tf.bodyL0 (F:=f35) (ρ:=[some (.ref 7),some (.int 0),none]) rfl rfl rfl rfl ?_
 walk_at "P"
 refine W.getI (i:=0) ef rfl ?_
 walk_at "P"
 refine W.getA c1 c2 rfl c3 ?_
 walk_at "P"
 exact ⟨rfl,rfl⟩
theorem nil_call {X : List O} {st dp : Int} {fr f0 : Nat} {ag : V} {Q : PQ} (S : HS X st dp fr [.ref (f0 + 3)]) (C : FrameAt X f0) : Tf 200 43 [] [.ref 7,.none,ag,.bytes []] X Q (fun e X'=>∃ d l,X'[e]? = some (.exc 1 (some d) true)∧X'[d]? = some (boom 0 nilMsg l)∧Fr [] X X'):=by
 have e7:=S.h7; have e6:=S.h6
 unfold hostA at e6
 refine Tf.bodyL0 (F:=f43) (ρ:=[some (.ref 7),some .none,some ag,some (.bytes [])]) rfl rfl rfl rfl ?_
 walk_at "P"
 refine Tf.le (k:=160) ?_ (by decide)
 refine Tf.bodyL0 (F:=f44) (ρ:=[some (.ref 7),some .none,some ag,some (.bytes []),none]) rfl rfl rfl rfl ?_
 walk_at "P"
 refine c40.use (by decide) ?_
 walk_at "P"
 refine c29n.use (by decide) ?_
 walk_at "P"
 refine Tf.le (k:=130) ?_ (by decide)
 refine Tf.bodyL0 (F:=f38) (ρ:=[some (.ref 7),some .none,some (.bytes [99,97,108,108]),some (.bytes []),none]) rfl rfl rfl rfl ?_
 walk_at "P"
 refine c27_none.use (by decide) ?_
 walk_at "P"
 refine Tf.le (k:=100) ?_ (by decide)
 refine Tf.bodyL0 (F:=f36) (ρ:=[some (.ref 7),some (.bytes nilMsg)]) rfl rfl rfl rfl ?_
 refine Tss.cons (Ts.raise ?_)
 walk_at "P"
 refine (c35 S C).use (by decide) ?_
 walk_at "P"
 apply Tc.exc
 ·rfl
 ·rfl
 rw [show iniT 1 = 4 from rfl]
 have h4:=c4 (H:=X ++ [.exc 1 none false]) (r:=X.length) (t:=nilMsg) get_new
 refine Pw.use h4 (Nat.le_of_ble_eq_true rfl) ?_
 refine ⟨rfl,?_⟩
 have l3 : (X ++ [O.exc 1 none false]).length = X.length + 1:=by rw [List.length_append]; rfl
 rw [l3]
 have l4 : ((X ++ [O.exc 1 none false] ++ [O.attrs [(15,.bytes nilMsg)]]).set X.length (.exc 1 (some (X.length + 1)) false)).length = X.length + 2:=by rw [List.length_set,List.length_append,l3]; rfl
 have y1 : ((X ++ [O.exc 1 none false] ++ [O.attrs [(15,.bytes nilMsg)]]).set X.length (.exc 1 (some (X.length + 1)) false))[X.length]? = some (.exc 1 (some (X.length + 1)) false):=get_eq (get_app get_new)
 have y2 : ((X ++ [O.exc 1 none false] ++ [O.attrs [(15,.bytes nilMsg)]]).set X.length (.exc 1 (some (X.length + 1)) false))[X.length + 1]? = some (O.attrs [(15,.bytes nilMsg)]):=get_ne (by walk_at "m") (get_newL l3.symm)
 have F2 : Fr [] X ((X ++ [O.exc 1 none false] ++ [O.attrs [(15,.bytes nilMsg)]]).set X.length (.exc 1 (some (X.length + 1)) false)):=Fr.refl.app.app.set (.inr (Nat.le_refl _))
 generalize (X ++ [O.exc 1 none false] ++ [O.attrs [(15,V.bytes nilMsg)]]).set X.length (.exc 1 (some (X.length + 1)) false) = Y at l4 y1 y2 F2 ⊢
 refine in2_3 _ _ rfl (get_ne (by walk_at "m") (get_app y1)) ?_
 have F3 : Fr [] X (((Y ++ [O.list []]).set (X.length + 1) (boom 0 nilMsg (X.length + 1 + 1))).set X.length (.exc 1 (some (X.length + 1)) true)):=(F2.app.set (.inr (by walk_at "m"))).set (.inr (Nat.le_refl _))
 exact in2_3 (X.length + 1) (X.length + 1 + 1) (get_eq (get_ne (by walk_at "m") (get_app y1))) (get_ne (by walk_at "m") (get_eq (get_app y2))) F3
theorem hprint {H : List O} {st dp : Int} {fr ar : Nat} {frs args outs : List V} {tv : V} {t : List Nat} {w : List Nat} {K : PE} (S : HS H st dp fr frs) (T : SHF H tv) (hs : st < 500000) (har : H[ar]? = some (.list args)) (hn : args.length ≤ 3) (ht : t.length ≤ 1000) (ho : H[8]? = some (.list outs)) (hol : outs.length < 1000) (hB : 139 ≤ H.length)
  (hw1 : ar ∉ w) (hw2 : 8 ∉ w) (hwl : ∀ a ∈ w,a < H.length) (hwk : ∀ a ∈ w,∃ l,H[a]? = some (.list l)) (ha6 : ar ≠ 8)
  (hK0 : K 0 H)
  (hKs : ∀ i X X' a b,K i X→H.length ≤ a→H.length ≤ b→Fr [6,8,a,b] X X'→K i X')
  (hcall : ∀ i X x st fr' f0 ag,args[i]? = some x→K i X→HS X st 8 fr' [.ref (f0 + 3)]→st < 1000000→H.length ≤ fr'→Tf 200 43 [] [.ref 7,tv,ag,.bytes []] X (fun v X'=>∃ r,v = .ref r∧X'[r]? = some (.list [.bytes t])∧X.length ≤ r∧Fr (6 :: fr' :: w) X X'∧HS X' (st + 1) 8 fr' [.ref (f0 + 3)]∧K (i + 1) X') (fun _ _=>False)) : Tf 330 100 [] [.ref 7,.ref 36,.str [112,114,105,110,116],.ref ar] H (fun v H'=>∃ r,v = .ref r∧H'[r]? = some (.list [])∧H.length ≤ r∧Fr (6 :: 8 :: w) H H'∧HS H' (st + 1 + args.length) 0 (H.length + 1) []∧K args.length H'∧H'[8]? = some (.list (outs ++ [.bytes (joinB [9] (List.replicate args.length t))]))) (fun _ _=>False):=by
 have wo : ∀ {a : Nat} {o : O},H[a]? = some o→(∀ l,o ≠ .list l)→a ∉ w:=fun e h hm=>by
  obtain ⟨l,e2⟩:=hwk _ hm
  exact h _ (Option.some.inj (e.symm.trans e2))
 refine c100p S T (by walk_at "m") (k1:=260) (by decide) (by decide) (fun X Fx Sx lx Hc Fc Sc _=>?_)
 have FH : Fr [6,H.length + 1] H Hc:=((Fr.refl (w:=[6,H.length + 1]) (H:=H)).trans2 Fx (by walk_at "ws")).trans2 Fc (by walk_at "ws")
 rw [lx] at Sc ⊢
 have hcl : H.length + 2 ≤ Hc.length:=by have:=Fc.le; walk_at "m"
 have TH : TT Hc 36 35 37 38 (.int (-1)) .none KS (LS tv):=T.sh.fr_ FH (by walk_at "nm") (by walk_at "nm") (by walk_at "nm") (by walk_at "nm")
 have hc16:=FH.get T.cl (by walk_at "nm")
 have hc15:=FH.get T.ce (by walk_at "nm")
 have ha:=get_lt har
 have na6 : ar ≠ 6:=ne_get har S.h6 (by intro h; injection h)
 have hra : Hc[ar]? = some (.list args):=FH.get har (by walk_at "nm")
 have ho' : Hc[8]? = some (.list outs):=FH.get ho (by walk_at "nm")
 have hK : K 0 Hc:=hKs 0 H Hc (H.length + 1) (H.length + 1) hK0 (by walk_at "m") (by walk_at "m") (FH.sub (by walk_at "ws"))
 apply Tc.clo hc16
 ·rfl
 refine Tf.le (k:=260) ?_ (by decide)
 refine Tf.bodyL0 (F:=f107) (ρ:=[some (.ref 7),some (.ref ar)]) rfl rfl rfl rfl ?_
 walk_at "P"
 refine Tf.le (k:=240) ?_ (by decide)
 refine c59 (J:=fun i Y=>Fr (6 :: (H.length + 1) :: w) Hc Y∧HS Y (st + 1 + i) (0 + 8) (H.length + 1) ([] ++ [.ref (H.length + 2 + 3)])∧K i Y∧Y[Hc.length]? = some (.list (List.replicate i (.bytes t)))) (tv:=tv) (args:=args) (t:=t) TH ht hn ?_ ?_ ?_ ?_
 ·intro X0 F0 e0
  refine in0_4 ((Fr.refl (w:=6 :: (H.length + 1) :: w)).trans2 F0 (by walk_at "ws")) ?_ (hKs 0 Hc X0 (H.length + 1) (H.length + 1) hK (by walk_at "m") (by walk_at "m") (F0.sub (by walk_at "ws"))) e0
  rw [show st + 1 + ((0 : Nat) : Int) = st + 1 by walk_at "m"]
  exact Sc.fr_ F0 (by walk_at "nm") (by walk_at "nm") (by walk_at "nm") (by walk_at "nm") (by walk_at "nm")
 ·intro i Y x hx zq; (refine ex0_4 zq fun FY SY KY tY=>?_; clear zq)
  have hi:=(List.getElem?_eq_some_iff.mp hx).1
  have hy:=FY.le
  refine in3_4 _ _ _ SY.h7 SY.h6 (FY.get hra (fun hm=>?_)) ?_
  ·rcases List.mem_cons.mp hm with h | hm
   ·exact na6 h
   ·rcases List.mem_cons.mp hm with h | hm
    ·walk_at "m"
    ·exact hw1 hm
  refine Tf.use (hcall i (Y ++ [.list [x]]) x (st + 1 + i) (H.length + 1) (H.length + 2) _ hx (hKs i Y _ (H.length + 1) (H.length + 1) KY (by walk_at "m") (by walk_at "m") Fr.refl.app) SY.app (by walk_at "m") (by walk_at "m")) (by decide) (fun v Z hv=>?_) (fun _ _ h=>h.elim)
  (refine ex1_6 hv fun r hr1 hr2 hr3 FZ SZ KZ=>?_; clear hv)
  have lY : (Y ++ [O.list [x]]).length = Y.length + 1:=by rw [List.length_append]; rfl
  have tZ : Z[Hc.length]? = some (.list (List.replicate i (.bytes t))):=FZ.get (get_app tY) (fun hm=>by
   rcases List.mem_cons.mp hm with h | hm
   ·walk_at "m"
   ·rcases List.mem_cons.mp hm with h | hm
    ·walk_at "m"
    ·have:=hwl _ hm; walk_at "m")
  refine in1_7 r hr1 hr2 tZ ?_ ?_ ?_ (get_eq tZ)
  ·exact ((FY.app (x:=.list [x])).trans FZ).set (.inr (Nat.le_refl _))
  ·rw [show st + 1 + ((i + 1 : Nat) : Int) = st + 1 + (i : Int) + 1 by walk_at "m"]
   have hf:=SZ.hf
   have m7:=ne_get tZ SZ.h7 (by intro h; injection h)
   have m6:=ne_get tZ SZ.h6 (by intro h; injection h)
   have m5:=ne_get tZ SZ.h5 (by intro h; injection h)
   have m4:=ne_get tZ SZ.h4 (by intro h; injection h)
   exact ⟨get_ne m7 SZ.h7,get_ne m6 SZ.h6,get_ne m5 SZ.h5,get_ne m4 SZ.h4,get_ne (by walk_at "m") SZ.hf⟩
  ·exact hKs (i + 1) Z _ Hc.length Hc.length KZ (by walk_at "m") (by walk_at "m") (Fr.refl.set (.inl (by walk_at "nm")))
 ·intro i Y zq; (refine ex0_4 zq fun FY SY KY tY=>?_; clear zq)
  refine FY.get hra (fun hm=>?_)
  rcases List.mem_cons.mp hm with h | hm
  ·exact na6 h
  ·rcases List.mem_cons.mp hm with h | hm
   ·walk_at "m"
   ·exact hw1 hm
 ·intro Y zq; (refine ex0_4 zq fun FY SY KY tY=>?_; clear zq)
  have hy:=FY.le
  have oY : Y[8]? = some (.list outs):=FY.get ho' (fun hm=>by
   rcases List.mem_cons.mp hm with h | hm
   ·walk_at "m"
   ·rcases List.mem_cons.mp hm with h | hm
    ·walk_at "m"
    ·exact hw2 hm)
  refine in4_6 _ _ _ outs SY.h7 SY.h6 oY hol tY ?_
  walk_at "P"
  have m7:=ne_get oY SY.h7 (by intro h; injection h)
  have m6:=ne_get oY SY.h6 (by intro h; injection h)
  have m5:=ne_get oY SY.h5 (by intro h; injection h)
  have m4:=ne_get oY SY.h4 (by intro h; injection h)
  generalize hX2 : outs ++ [V.bytes (joinB [9] (List.replicate args.length t))] = o2
  have S2 : HS (Y.set 8 (.list o2) ++ [.list []]) (st + 1 + args.length) (0 + 8) (H.length + 1) ([] ++ [.ref (H.length + 2 + 3)]):=⟨get_app (get_ne m7 SY.h7),get_app (get_ne m6 SY.h6),get_app (get_ne m5 SY.h5),get_app (get_ne m4 SY.h4),get_app (get_ne (by walk_at "m") SY.hf)⟩
  refine ⟨st + 1 + args.length,S2,Y.length,rfl,?_,by walk_at "m",?_,S2.setf.set6,?_,?_⟩
  ·refine get_ne (by walk_at "m") (get_ne (by walk_at "m") (get_newL ?_))
   rw [List.length_set]
  ·refine Fr.set (Fr.set (Fr.app (Fr.set ?_ (.inl (List.mem_cons_of_mem _ List.mem_cons_self)))) (.inr (by walk_at "m"))) (.inl List.mem_cons_self)
   refine ((Fr.refl (w:=6 :: 8 :: w)).trans2 FH (fun x hx=>?_)).trans2 FY (fun x hx=>?_)
   ·simp only [List.mem_cons,List.not_mem_nil,or_false] at hx ⊢
    walk_at "m"
   ·rcases List.mem_cons.mp hx with h | hx
    ·exact .inl (by rw [h]; exact List.mem_cons_self)
    ·rcases List.mem_cons.mp hx with h | hx
     ·exact .inr (by walk_at "m")
     ·exact .inl (List.mem_cons_of_mem _ (List.mem_cons_of_mem _ hx))
  ·refine hKs _ Y _ (H.length + 1) (H.length + 1) KY (by walk_at "m") (by walk_at "m") ?_
   exact (((Fr.refl.set (.inl (by walk_at "nm"))).app).set (.inl (by walk_at "nm"))).set (.inl (by walk_at "nm"))
  ·exact get_ne (by decide) (get_ne (by walk_at "m") (get_app (get_eq oY)))
structure TO (H : List O) (tb tbd tc b0 b1 b2 tl : Nat) (nu nm lt : V) : Prop where
 bi : BI H tb tbd nu nm (.ref tc)
 c : H[tc]? = some (.clo 110 [b1,b2,b0])
 e0 : H[b0]? = some (.cell (some (.ref 36)))
 e1 : H[b1]? = some (.cell (some (.ref tl)))
 e2 : H[b2]? = some (.cell (some lt))
theorem TO.fr_ {H H' : List O} {w : List Nat} {tb tbd tc b0 b1 b2 tl : Nat} {nu nm lt : V} (T : TO H tb tbd tc b0 b1 b2 tl nu nm lt) (F : Fr w H H') (h1 : tb ∉ w) (h2 : tbd ∉ w) (h3 : tc ∉ w) (h4 : b0 ∉ w) (h5 : b1 ∉ w) (h6 : b2 ∉ w) : TO H' tb tbd tc b0 b1 b2 tl nu nm lt:=⟨T.bi.fr_ F h1 h2,F.get T.c h3,F.get T.e0 h4,F.get T.e1 h5,F.get T.e2 h6⟩
theorem heard_told {H : List O} {st dp : Int} {fr ar tb tbd tc b0 b1 b2 tl : Nat} {frs args outs : List V} {nu nm lt : V} (S : HS H st dp fr frs) (T : SHF H (.ref tb)) (hs : st < 500000) (har : H[ar]? = some (.list args)) (hn : args.length ≤ 3) (ho : H[8]? = some (.list outs)) (hol : outs.length < 1000) (hB : 139 ≤ H.length) (TB : TO H tb tbd tc b0 b1 b2 tl nu nm lt) (el : H[tl]? = some (.list [])) (q : 139 ≤ tb∧139 ≤ tbd∧139 ≤ tc∧139 ≤ b0∧139 ≤ b1∧139 ≤ b2∧139 ≤ tl∧139 ≤ ar) (qa : ar ≠ tl) : Tf 330 100 [] [.ref 7,.ref 36,.str [112,114,105,110,116],.ref ar] H (fun v H'=>∃ r,v = .ref r∧H'[r]? = some (.list [])∧H.length ≤ r∧Fr [6,8,tl,38] H H'∧HS H' (st + 1 + args.length) 0 (H.length + 1) []∧H'[tl]? = some (.list (List.replicate args.length (.int 1)))∧TT H' 36 35 37 38 (.int (-1)) .none KS (LS (if args.length = 0 then .ref tb else lt))∧H'[8]? = some (.list (outs ++ [.bytes (joinB [9] (List.replicate args.length [97,98]))]))) (fun _ _=>False):=by
 (refine ex0_8 q fun q1 q2 q3 q4 q5 q6 q7 q8=>?_; clear q)
 have l1:=get_lt TB.bi.h1
 have l2:=get_lt TB.bi.h2
 have l3:=get_lt TB.c
 have l4:=get_lt TB.e0
 have l5:=get_lt TB.e1
 have l6:=get_lt TB.e2
 have l7:=get_lt el
 have d1:=ne_get TB.bi.h1 el (by intro h; injection h)
 have d2:=ne_get TB.bi.h2 el (by intro h; injection h)
 have d3:=ne_get TB.c el (by intro h; injection h)
 have d4:=ne_get TB.e0 el (by intro h; injection h)
 have d5:=ne_get TB.e1 el (by intro h; injection h)
 have d6:=ne_get TB.e2 el (by intro h; injection h)
 refine Tf.use (hprint (K:=fun i X=>X[tl]? = some (.list (List.replicate i (.int 1)))∧TT X 36 35 37 38 (.int (-1)) .none KS (LS (if i = 0 then .ref tb else lt))∧TO X tb tbd tc b0 b1 b2 tl nu nm lt) (w:=[tl,38]) (t:=[97,98]) S T hs har hn (by decide) ho hol hB (by walk_at "nm") (by walk_at "nm") ?_ ?_ (by walk_at "m") ⟨el,T.sh,TB⟩ ?_ ?_) (Nat.le_refl _) (fun v H' h=>?_) (fun _ _ h=>h)
 ·intro a ha
  simp only [List.mem_cons,List.not_mem_nil,or_false] at ha
  walk_at "m"
 ·intro a ha
  simp only [List.mem_cons,List.not_mem_nil,or_false] at ha
  rcases ha with rfl | rfl
  ·exact ⟨_,el⟩
  ·exact ⟨_,T.sh.vals⟩
 ·rintro i X X' a b ⟨k1,k2,k3⟩ ha hb F
  exact in0_3 (F.get k1 (by walk_at "nm")) (k2.fr_ F (by walk_at "nm") (by walk_at "nm") (by walk_at "nm") (by walk_at "nm")) (k3.fr_ F (by walk_at "nm") (by walk_at "nm") (by walk_at "nm") (by walk_at "nm") (by walk_at "nm") (by walk_at "nm"))
 ·rintro i X x st' fr' f0 ag hi ⟨k1,k2,k3⟩ SX hst hfr
  have hi3:=(List.getElem?_eq_some_iff.mp hi).1
  refine Tf.use (told_call SX hst (by decide) (Nat.le_of_ble_eq_true rfl) k3.bi k3.c k3.e0 k3.e1 k3.e2 k1 (by rw [List.length_replicate]; walk_at "m") k2 (by walk_at "m") (by walk_at "m") (by walk_at "m") (by walk_at "m") (by walk_at "m")) (Nat.le_refl _) (fun v X' h=>?_) (fun _ _ h=>h)
  (refine ex1_7 h fun r g1 g2 g3 g4 g5 g6 g7=>?_; clear h)
  refine in1_8 r g1 g2 g3 g4 g5 ?_ ?_ (k3.fr_ g4 (by walk_at "nm") (by walk_at "nm") (by walk_at "nm") (by walk_at "nm") (by walk_at "nm") (by walk_at "nm"))
  ·rw [g6,List.replicate_succ']
  ·rw [if_neg (Nat.succ_ne_zero i)]; exact g7
 ·(refine ex1_7 h fun r g1 g2 g3 g4 g5 z1q g8=>?_; clear h; obtain ⟨g6,g7,_⟩:=z1q)
  exact in1_8 r g1 g2 g3 g4 g5 g6 g7 g8
theorem heard_none {H : List O} {st dp : Int} {fr ar : Nat} {frs outs : List V} {tv : V} (S : HS H st dp fr frs) (T : SHF H tv) (hs : st < 500000) (har : H[ar]? = some (.list [])) (ho : H[8]? = some (.list outs)) (hol : outs.length < 1000) (hB : 139 ≤ H.length) (ha : 139 ≤ ar) : Tf 330 100 [] [.ref 7,.ref 36,.str [112,114,105,110,116],.ref ar] H (fun v H'=>∃ r,v = .ref r∧H'[r]? = some (.list [])∧H.length ≤ r∧Fr [6,8] H H'∧HS H' (st + 1) 0 (H.length + 1) []∧H'[8]? = some (.list (outs ++ [.bytes []]))) (fun _ _=>False):=by
 refine Tf.use (hprint (K:=fun i X=>True) (w:=[]) (t:=[]) S T hs har (by decide) (by decide) ho hol hB (by walk_at "nm") (by walk_at "nm") (fun a h=>by cases h) (fun a h=>by cases h) (by walk_at "m") trivial (fun _ _ _ _ _ _ _ _ _=>trivial) (fun i X x st fr f0 ag h=>by cases h)) (Nat.le_refl _) (fun v H' h=>?_) (fun _ _ h=>h)
 (refine ex1_7 h fun r g1 g2 g3 g4 g5 _ g8=>?_; clear h)
 refine in1_6 r g1 g2 g3 g4 ?_ g8
 rw [show st + 1 = st + 1 + (([] : List V).length : Int) from (Int.add_zero _).symm]
 exact g5
theorem heard_later {H : List O} {st dp : Int} {fr ar tb tbd tc : Nat} {frs outs : List V} {nu nm : V} (S : HS H st dp fr frs) (T : SHF H (.ref tb)) (hs : st < 500000) (har : H[ar]? = some (.list [.int 1])) (ho : H[8]? = some (.list outs)) (hol : outs.length < 1000) (hB : 139 ≤ H.length) (ha : 139 ≤ ar) (B : BI H tb tbd nu nm (.ref tc)) (c : H[tc]? = some (.clo 109 [])) (q : 139 ≤ tb∧139 ≤ tbd∧139 ≤ tc) : Tf 330 100 [] [.ref 7,.ref 36,.str [112,114,105,110,116],.ref ar] H (fun v H'=>∃ r,v = .ref r∧H'[r]? = some (.list [])∧H.length ≤ r∧Fr [6,8] H H'∧HS H' (st + 1 + 1) 0 (H.length + 1) []∧H'[8]? = some (.list (outs ++ [.bytes [108,97,116,101,114]]))) (fun _ _=>False):=by
 (refine ex0_3 q fun q1 q2 q3=>?_; clear q)
 have l1:=get_lt B.h1
 have l2:=get_lt B.h2
 have l3:=get_lt c
 refine Tf.use (hprint (K:=fun i X=>BI X tb tbd nu nm (.ref tc)∧X[tc]? = some (.clo 109 [])) (w:=[]) (t:=[108,97,116,101,114]) S T hs har (Nat.le_of_ble_eq_true rfl) (by decide) ho hol hB (by walk_at "nm") (by walk_at "nm") (fun a h=>by cases h) (fun a h=>by cases h) (by walk_at "m") ⟨B,c⟩ ?_ ?_) (Nat.le_refl _) (fun v H' h=>?_) (fun _ _ h=>h)
 ·rintro i X X' a b ⟨k1,k2⟩ ha hb F
  exact ⟨k1.fr_ F (by walk_at "nm") (by walk_at "nm"),F.get k2 (by walk_at "nm")⟩
 ·rintro i X x st' fr' f0 ag hi ⟨k1,k2⟩ SX hst hfr
  refine Tf.use (later_call SX hst (by decide) (Nat.le_of_ble_eq_true rfl) k1 k2) (Nat.le_refl _) (fun v X' h=>?_) (fun _ _ h=>h)
  (refine ex1_5 h fun r g1 g2 g3 g4 g5=>?_; clear h)
  exact in1_7 r g1 g2 g3 g4 g5 (k1.fr_ g4 (by walk_at "nm") (by walk_at "nm")) (g4.get k2 (by walk_at "nm"))
 ·(refine ex1_7 h fun r g1 g2 g3 g4 g5 _ g8=>?_; clear h)
  exact in1_6 r g1 g2 g3 g4 g5 g8
theorem heard_nil {H : List O} {st dp : Int} {fr ar : Nat} {frs : List V} (S : HS H st dp fr frs) (T : SHF H .none) (hs : st < 500000) (har : H[ar]? = some (.list [.int 1])) (hB : 139 ≤ H.length) (ha : 139 ≤ ar) : Tf 330 100 [] [.ref 7,.ref 36,.str [112,114,105,110,116],.ref ar] H (fun v H'=>v = .bytes nilMsg∧Fr [6] H H') (fun _ _=>False):=by
 refine c100p S T (by walk_at "m") (k1:=260) (by decide) (by decide) (fun X Fx Sx lx Hc Fc Sc Cc=>?_)
 have FH : Fr [6,H.length + 1] H Hc:=((Fr.refl (w:=[6,H.length + 1]) (H:=H)).trans2 Fx (by walk_at "ws")).trans2 Fc (by walk_at "ws")
 rw [lx] at Sc Cc ⊢
 have hcl : H.length + 2 ≤ Hc.length:=by have:=Fc.le; walk_at "m"
 have TH : TT Hc 36 35 37 38 (.int (-1)) .none KS (LS .none):=T.sh.fr_ FH (by walk_at "nm") (by walk_at "nm") (by walk_at "nm") (by walk_at "nm")
 have hc16:=FH.get T.cl (by walk_at "nm")
 have hc15:=FH.get T.ce (by walk_at "nm")
 have hal:=get_lt har
 have hra : Hc[ar]? = some (.list [.int 1]):=FH.get har (by walk_at "nm")
 apply Tc.clo hc16
 ·rfl
 refine Tf.le (k:=260) ?_ (by decide)
 refine Tf.bodyL0 (F:=f107) (ρ:=[some (.ref 7),some (.ref ar)]) rfl rfl rfl rfl ?_
 walk_at "P"
 refine Tf.le (k:=240) ?_ (by decide)
 refine c59 (J:=fun i Y=>i = 0∧Fr [] Hc Y) (tv:=.none) (args:=[.int 1]) (t:=[]) TH (by decide) (Nat.le_of_ble_eq_true rfl) ?_ ?_ ?_ ?_
 ·exact fun X0 F0 e0=>⟨rfl,F0⟩
 ·rintro i Y x hx ⟨rfl,FY⟩
  have SY : HS Y (st + 1) (0 + 8) (H.length + 1) ([] ++ [.ref (H.length + 2 + 3)]):=Sc.fr_ FY (by walk_at "nm") (by walk_at "nm") (by walk_at "nm") (by walk_at "nm") (by walk_at "nm")
  refine in3_4 _ _ _ SY.h7 SY.h6 (FY.get hra (by walk_at "nm")) ?_
  have CY : FrameAt (Y ++ [.list [x]]) (H.length + 2):=by
   (refine ex1_3 Cc fun fs c1 c2 c3=>?_; clear Cc)
   exact in1_3 fs (get_app (FY.get c1 (by walk_at "nm"))) (get_app (FY.get c2 (by walk_at "nm"))) c3
  refine Tf.use (nil_call (Q:=fun _ _=>False) SY.app CY) (Nat.le_refl _) (fun _ _ h=>h.elim) (fun e X' h=>?_)
  (refine ex2_3 h fun d l g1 g2 g3=>?_; clear h)
  refine in3_4 d nilMsg l g1 g2 rfl ?_
  exact ((((Fr.refl (w:=[6]) (H:=H)).trans2 FH (by walk_at "ws")).trans2 FY (by walk_at "ws")).app).trans2 g3 (by walk_at "ws")
 ·rintro i Y ⟨rfl,FY⟩
  exact FY.get hra (by walk_at "nm")
 ·rintro Y ⟨h,_⟩
  injection h
theorem SHF.new {H H' : List O} {tv lt : V} {w : List Nat} (T : SHF H tv) (F : Fr w H H') (h : ∀ a ∈ w,a = 3 ∨ a = 6 ∨ a = 8 ∨ a = 38 ∨ 139 ≤ a) (hs : TT H' 36 35 37 38 (.int (-1)) .none KS (LS lt)) : SHF H' lt:=by
 have q : ∀ {a : Nat},a < 139→a ≠ 3∧a ≠ 6∧a ≠ 8∧a ≠ 38→a ∉ w:=fun hl hn hm=>by
  have:=h _ hm
  walk_at "m"
 exact ⟨hs,T.lb.fr_ F (q (by decide) (by decide)) (q (by decide) (by decide)) (q (by decide) (by decide)) (q (by decide) (by decide)),T.st.fr_ F (q (by decide) (by decide)) (q (by decide) (by decide)),T.pr.fr_ F (q (by decide) (by decide)) (q (by decide) (by decide)),F.get T.cl (q (by decide) (by decide)),F.get T.ce (q (by decide) (by decide))⟩
theorem W.slice {H : List O} {r : Nat} {xs : List V} {lo hi : Option V} {a b : Option Nat} {E : PE} {Q : PQ} (e : H[r]? = some (.list xs)) (h1 : bnd lo = some a) (h2 : bnd hi = some b) (h : Q (.ref H.length) (H ++ [.list (cut xs a b)])) : W (Mp.slice (.ref r) lo hi) H Q E:=by
 unfold Mp.slice
 rw [h1,h2]
 exact W.bind (W.ok rfl (W.bind (W.ok rfl (W.bind (W.get e (W.ok rfl h))))))
noncomputable def s105 : List S:=[.ex (.meth (.cel 0) 46 [.cst (.bytes [116,111,115,116,114,105,110,103]),.cel 2]),.ite (.or [.cmp .ne (.call (.glo (.fn 100)) [.loc 1,.cel 0,.cst (.str [112,114,105,110,116]),.lst []]) (.lst []),.cmp .ne (.slc (.attr (.loc 1) 32) (some (.cst (.int 1))) none) (.lst [.cst (.bytes [])])]) [.ret (.cst (.bool false))] [],.asg (.loc 3) (.call (.glo (.fn 100)) [.loc 1,.cel 0,.cst (.str [112,114,105,110,116]),.lst [.cst (.int 1)]]),.ret (.ite (.cmp .is (.cel 2) (.cst .none)) (.cmp .eq (.loc 3) (.cst (.bytes [97,116,116,101,109,112,116,32,116,111,32,99,97,108,108,32,97,32,110,105,108,32,118,97,108,117,101]))) (.and [.cmp .eq (.loc 3) (.lst []),.cmp .eq (.slc (.attr (.loc 1) 32) (some (.cst (.int 2))) none) (.lst [.cst (.bytes [108,97,116,101,114])])]))]
theorem tail105 {Y : List O} {st dp : Int} {fr B b1 : Nat} {frs : List V} {tv lt o1 : V} {n : Option V} (S : HS Y st dp fr frs) (T : SHF Y tv) (hs : st < 100000) (hB : 139 ≤ B) (hl : B + 12 ≤ Y.length) (hf : fr ≠ 38) (k0 : Y[B]? = some (.cell (some (.ref 36)))) (k2 : Y[B + 2]? = some (.cell (some lt))) (hlt : lt = .none ∨ lt = .ref (B + 7)) (Bl : BI Y (B + 7) (B + 6) (.int (-93)) (.bytes [108,97,116,101,114]) (.ref (B + 5))) (u3 : Y[B + 5]? = some (.clo 109 [])) (e8 : Y[8]? = some (.list [o1])) {Q : PQ} {E : PE} (hQ : ∀ Y',Fr [6,8,38] Y Y'→Q (.bool true) Y') : Tss 344 [B,b1,B + 2] [some (.ref 3),some (.ref 7),n,none] s105 Y (Rq Q) E:=by
 have x36:=T.sh.inst
 have x35:=T.sh.att
 unfold s105
 walk_at "P"
 refine (c23_old T.sh (j:=2) (x:=.bytes [116,111,115,116,114,105,110,103]) rfl KS_simp (Nat.le_refl _) rfl).use (by decide) ?_
 have F1 : Fr [6,8,38] Y (Y.set 38 (.list (LS lt))):=Fr.ln (by walk_at "nm")
 have G1 : Fr [38] Y (Y.set 38 (.list (LS lt))):=Fr.ln (by walk_at "nm")
 have T1 : SHF (Y.set 38 (.list (LS lt))) lt:=T.new G1 (by
  intro a ha
  simp only [List.mem_cons,List.not_mem_nil,or_false] at ha
  walk_at "m") (T.sh.set_old (j:=2) (v:=lt))
 have l1 : (Y.set 38 (.list (LS lt))).length = Y.length:=by rw [List.length_set]
 refine (?_ : Sq _ _ _ (Y.set 38 (.list (LS lt))))
 generalize Y.set 38 (.list (LS lt)) = Y1 at F1 G1 T1 l1 ⊢
 have S1 : HS Y1 st dp fr frs:=S.fr_ G1 (by walk_at "nm") (by walk_at "nm") (by walk_at "nm") (by walk_at "nm") (by walk_at "nm")
 replace k0:=G1.get k0 (by walk_at "nm")
 replace k2:=G1.get k2 (by walk_at "nm")
 replace Bl:=Bl.fr_ G1 (by walk_at "nm") (by walk_at "nm")
 replace u3:=G1.get u3 (by walk_at "nm")
 replace e8:=G1.get e8 (by walk_at "nm")
 walk_at "P"
 have l2 : (Y1 ++ [O.list []]).length = Y.length + 1:=by rw [List.length_append,l1]; rfl
 refine Tf.use (heard_none S1.app T1.app (by walk_at "m") get_new (get_app e8) (Nat.le_of_ble_eq_true rfl) (by walk_at "m") (by walk_at "m")) (by decide) (fun v Y2 hv=>?_) (fun _ _ h=>h.elim)
 (refine ex1_6 hv fun r z1q g1 g2 G2 S2 o2=>?_; clear hv; subst z1q)
 replace G2 : Fr [6,8] Y1 Y2:=(Fr.refl.app (w:=[6,8])).trans G2
 have F2 : Fr [6,8,38] Y Y2:=F1.trans2 G2 (by walk_at "ws")
 replace k0:=G2.get k0 (by walk_at "nm")
 replace k2:=G2.get k2 (by walk_at "nm")
 replace Bl:=Bl.fr_ G2 (by walk_at "nm") (by walk_at "nm")
 replace u3:=G2.get u3 (by walk_at "nm")
 have T2 : SHF Y2 lt:=T1.fr_ G2 (by walk_at "ws")
 have l3 : Y1.length ≤ Y2.length:=G2.le
 rw [l2] at S2
 walk_at "P"
 refine W.neL (t:=true) (get_app g1) get_new rfl ?_
 walk_at "P"
 have S3:=S2.app (x:=O.list [])
 have h7:=S3.h7
 have h6:=S3.h6
 unfold hostA at h6
 walk_at "P"
 refine W.slice (a:=some 1) (b:=none) (get_app o2) rfl rfl ?_
 walk_at "P"
 refine W.neL (t:=true) (get_app get_new) get_new rfl ?_
 have S4:=(S3.app (x:=O.list (cut ([o1] ++ [.bytes []]) (some 1) none))).app (x:=O.list [.bytes []])
 have T4:=(T2.app (x:=O.list [])).app (x:=O.list (cut ([o1] ++ [.bytes []]) (some 1) none)) |>.app (x:=O.list [.bytes []])
 have G4 : Fr [] Y2 (Y2 ++ [O.list []] ++ [O.list (cut ([o1] ++ [.bytes []]) (some 1) none)] ++ [O.list [.bytes []]]):=Fr.refl.app.app.app
 have l4 : Y2.length ≤ (Y2 ++ [O.list []] ++ [O.list (cut ([o1] ++ [.bytes []]) (some 1) none)] ++ [O.list [.bytes []]]).length:=G4.le
 generalize Y2 ++ [O.list []] ++ [O.list (cut ([o1] ++ [.bytes []]) (some 1) none)] ++ [O.list [.bytes []]] = Y4 at S4 T4 G4 l4 ⊢
 replace k0:=G4.get k0 (by walk_at "nm")
 replace k2:=G4.get k2 (by walk_at "nm")
 replace Bl:=Bl.fr_ G4 (by walk_at "nm") (by walk_at "nm")
 replace u3:=G4.get u3 (by walk_at "nm")
 replace o2:=G4.get o2 (by walk_at "nm")
 have F4 : Fr [6,8,38] Y Y4:=F2.trans2 G4 (by walk_at "ws")
 walk_at "P"
 have G5 : Fr [] Y4 (Y4 ++ [O.list [.int 1]]):=Fr.refl.app
 have S5:=S4.app (x:=O.list [.int 1])
 have T5:=T4.app (x:=O.list [.int 1])
 have har : (Y4 ++ [O.list [.int 1]])[Y4.length]? = some (.list [.int 1]):=get_new
 have l5 : (Y4 ++ [O.list [.int 1]]).length = Y4.length + 1:=by rw [List.length_append]; rfl
 generalize Y4 ++ [O.list [.int 1]] = Y5 at G5 S5 T5 har l5 ⊢
 replace k2:=G5.get k2 (by walk_at "nm")
 replace Bl:=Bl.fr_ G5 (by walk_at "nm") (by walk_at "nm")
 replace u3:=G5.get u3 (by walk_at "nm")
 replace o2:=G5.get o2 (by walk_at "nm")
 have F5 : Fr [6,8,38] Y Y5:=F4.trans2 G5 (by walk_at "ws")
 rcases hlt with rfl | rfl
 ·refine Tf.use (heard_nil S5 T5 (by walk_at "m") har (by walk_at "m") (by walk_at "m")) (by decide) (fun v Y6 hv=>?_) (fun _ _ h=>h.elim)
  obtain ⟨rfl,G6⟩:=hv
  have k6:=G6.get k2 (by walk_at "nm")
  walk_at "P"
  exact hQ _ (F5.trans2 G6 (by walk_at "ws"))
 ·refine Tf.use (heard_later S5 T5 (by walk_at "m") har o2 (Nat.le_of_ble_eq_true rfl) (by walk_at "m") (by walk_at "m") Bl u3 ⟨by walk_at "m",by walk_at "m",by walk_at "m"⟩) (by decide) (fun v Y6 hv=>?_) (fun _ _ h=>h.elim)
  (refine ex1_6 hv fun r6 z2q g3 g4 G6 S6 o6=>?_; clear hv; subst z2q)
  have k6:=G6.get k2 (by walk_at "nm")
  walk_at "P"
  refine W.eqL (t:=true) (get_app g3) get_new rfl ?_
  have S7:=S6.app (x:=O.list [])
  have j7:=S7.h7
  have j6:=S7.h6
  unfold hostA at j6
  walk_at "P"
  refine W.slice (a:=some 2) (b:=none) (get_app o6) rfl rfl ?_
  walk_at "P"
  refine W.eqL (t:=true) (get_app get_new) get_new rfl ?_
  apply Sq.ret
  apply Rq.ret
  exact hQ _ (F5.trans2 (G6.app.app.app) (by walk_at "ws"))
theorem W.mulL {H : List O} {r : Nat} {xs : List V} {k : Int} {E : PE} {Q : PQ} (e : H[r]? = some (.list xs)) (hk : k.natAbs < 1000∧xs.length ≤ 10) (h : Q (.ref H.length) (H ++ [.list (List.replicate k.toNat xs).flatten])) : W (binM .mul (.ref r) (.int k)) H Q E:=by
 refine W.bind (W.get e ?_)
 refine (?_ : W (if k.natAbs < 1000∧xs.length ≤ 10 then (new (.list (List.replicate k.toNat xs).flatten) >>= fun r=>Pure.pure (.ref r)) else Mp.stuck) H Q E)
 rw [if_pos hk]
 exact W.ok rfl h
theorem flat_one (x : V) : ∀ k : Nat,(List.replicate k [x]).flatten = List.replicate k x
 | 0=>rfl
 | k + 1=>by rw [List.replicate_succ,List.flatten_cons,flat_one x k,List.replicate_succ]; rfl
theorem eqLL_b (l : List Nat) : eqLL [.bytes l] [.bytes l] = some true:=by
 refine (?_ : some (decide ([l] = [l])) = _)
 rw [decide_eq_true rfl]
theorem c105 {H : List O} {st dp : Int} {fr j : Nat} {frs : List V} {tv : V} {zs : List Int} (S : HS H st dp fr frs) (T : SHF H tv) (e3 : H[3]? = some (.list [.ref 2,.int j])) (e2 : H[2]? = some (.list (zs.map V.int))) (e8 : H[8]? = some (.list [])) (hj : j < 500) (hst : st < 50000) (hB : 139 ≤ H.length) (hfr : 9 ≤ fr) (hf2 : fr ≠ 38) : Tf 350 105 [] [.ref 3,.ref 7,.ref 36] H (fun v H'=>v = .bool true∧Fr [3,6,8,38] H H') (fun _ _=>False):=by
 refine Tf.bodyL (F:=f105) (ρ:=[some (.ref 3),some (.ref 7),none,none]) (cv:=[some (.ref 36),none,none]) rfl rfl rfl ?_
 refine (?_ : Tss 349 [H.length,H.length + 1,H.length + 2] _ _ (H ++ [.cell (some (.ref 36)),.cell none,.cell none]) _ _)
 have k0 : (H ++ [O.cell (some (.ref 36)),.cell none,.cell none])[H.length]? = some (.cell (some (.ref 36))):=get_apps (i:=0) rfl
 have k1 : (H ++ [O.cell (some (.ref 36)),.cell none,.cell none])[H.length + 1]? = some (.cell none):=get_apps (i:=1) rfl
 have k2 : (H ++ [O.cell (some (.ref 36)),.cell none,.cell none])[H.length + 2]? = some (.cell none):=get_apps (i:=2) rfl
 have F1 : Fr [3] H (H ++ [O.cell (some (.ref 36)),.cell none,.cell none]):=Fr.apps
 have F0 : Fr [] H (H ++ [O.cell (some (.ref 36)),.cell none,.cell none]):=Fr.apps
 have l1 : (H ++ [O.cell (some (.ref 36)),.cell none,.cell none]).length = H.length + 3:=by rw [List.length_append]; rfl
 generalize hB' : H.length = B at *
 generalize H ++ [O.cell (some (.ref 36)),.cell none,.cell none] = X at *
 have y3:=F0.get e3 (by walk_at "nm")
 have y2:=F0.get e2 (by walk_at "nm")
 walk_at "P"
 rw [l1]
 refine Tf.use (c99 (get_app y3) (get_app y2) (by walk_at "m") (by decide)) (by walk_at "m") (fun v X1 hv=>?_) (fun _ _ h=>h.elim)
 (refine ex1_4 hv fun n z3q hn0 hn4 hX1=>?_; clear hv; subst z3q)
 have h3 : X.length ≠ 3:=by walk_at "m"
 have l2 : X1.length = B + 4:=by rw [hX1,List.length_set,List.length_append,l1]; rfl
 have F2 : Fr [3] H X1:=by rw [hX1]; exact F1.app.set (.inl List.mem_cons_self)
 have el : X1[B + 3]? = some (.list []):=by rw [hX1]; exact get_ne (by walk_at "m") (get_newL l1.symm)
 have z3 : X1[3]? = some (.list [.ref 2,.int ((j + 1 : Nat) : Int)]):=by rw [hX1]; exact get_eq (get_app y3)
 have z2 : X1[2]? = some (.list (zs.map V.int)):=by rw [hX1]; exact get_ne (by decide) (get_app y2)
 replace k0 : X1[B]? = some (.cell (some (.ref 36))):=by rw [hX1]; exact get_ne (by walk_at "m") (get_app k0)
 replace k1 : X1[B + 1]? = some (.cell none):=by rw [hX1]; exact get_ne (by walk_at "m") (get_app k1)
 replace k2 : X1[B + 2]? = some (.cell none):=by rw [hX1]; exact get_ne (by walk_at "m") (get_app k2)
 clear hX1 h3 y3 y2 F1 F0 l1 e3 e2
 clear X
 walk_at "P"
 apply Tas.cel
 ·rfl
 ·exact get_app k1
 have l3 : ((X1 ++ [O.tup [.ref (B + 3),.int n]]).set (B + 1) (.cell (some (.ref (B + 3))))).length = B + 5:=by rw [List.length_set,List.length_append,l2]; rfl
 have F3 : Fr [3] H ((X1 ++ [O.tup [.ref (B + 3),.int n]]).set (B + 1) (.cell (some (.ref (B + 3))))):=F2.app.set (.inr (by walk_at "m"))
 have G3 : Fr [B + 1] X1 ((X1 ++ [O.tup [.ref (B + 3),.int n]]).set (B + 1) (.cell (some (.ref (B + 3))))):=Fr.refl.app.set (.inl (by walk_at "nm"))
 have q1 : ((X1 ++ [O.tup [.ref (B + 3),.int n]]).set (B + 1) (.cell (some (.ref (B + 3)))))[B + 1]? = some (.cell (some (.ref (B + 3)))):=get_eq (get_app k1)
 generalize (X1 ++ [O.tup [.ref (B + 3),.int n]]).set (B + 1) (.cell (some (.ref (B + 3)))) = X2 at l3 F3 G3 q1 ⊢
 replace k0:=G3.get k0 (by walk_at "nm")
 replace k2:=G3.get k2 (by walk_at "nm")
 replace el:=G3.get el (by walk_at "nm")
 replace z3:=G3.get z3 (by walk_at "nm")
 replace z2:=G3.get z2 (by walk_at "nm")
 clear G3 F2 l2 k1
 clear X1
 walk_at "P"
 refine Te.lam (l:=[]) rfl rfl ?_
 apply Tes.nil
 rw [l3]
 apply Tc.inst
 ·rfl
 ·rfl
 have l4 : (X2 ++ [O.clo 109 []]).length = B + 6:=by rw [List.length_append,l3]; rfl
 have l5 : (X2 ++ [O.clo 109 []] ++ [O.attrs []]).length = B + 7:=by rw [List.length_append,l4]; rfl
 rw [l4,show iniT 3 = 26 from rfl]
 have u1 : (X2 ++ [O.clo 109 []] ++ [O.attrs []] ++ [O.inst 3 (B + 6)])[B + 7]? = some (.inst 3 (B + 6)):=get_newL l5.symm
 have u2 : (X2 ++ [O.clo 109 []] ++ [O.attrs []] ++ [O.inst 3 (B + 6)])[B + 6]? = some (.attrs []):=get_app (get_newL l4.symm)
 refine (c26 (r:=B + 7) u1 u2).use (Nat.le_of_ble_eq_true rfl) ?_
 refine ⟨rfl,?_⟩
 have u3 : ((X2 ++ [O.clo 109 []] ++ [O.attrs []] ++ [O.inst 3 (B + 6)]).set (B + 6) (.attrs [(18,V.int (-93)),(24,.bytes [108,97,116,101,114]),(25,.ref (B + 5))]))[B + 5]? = some (.clo 109 []):=get_ne (by walk_at "m") (get_app (get_app (get_newL l3.symm)))
 have Bl : BI ((X2 ++ [O.clo 109 []] ++ [O.attrs []] ++ [O.inst 3 (B + 6)]).set (B + 6) (.attrs [(18,V.int (-93)),(24,.bytes [108,97,116,101,114]),(25,.ref (B + 5))])) (B + 7) (B + 6) (.int (-93)) (.bytes [108,97,116,101,114]) (.ref (B + 5)):=⟨get_ne (by walk_at "m") u1,get_eq u2⟩
 have l6 : ((X2 ++ [O.clo 109 []] ++ [O.attrs []] ++ [O.inst 3 (B + 6)]).set (B + 6) (.attrs [(18,V.int (-93)),(24,.bytes [108,97,116,101,114]),(25,.ref (B + 5))])).length = B + 8:=by rw [List.length_set,List.length_append,l5]; rfl
 have G4 : Fr [] X2 ((X2 ++ [O.clo 109 []] ++ [O.attrs []] ++ [O.inst 3 (B + 6)]).set (B + 6) (.attrs [(18,V.int (-93)),(24,.bytes [108,97,116,101,114]),(25,.ref (B + 5))])):=Fr.refl.app.app.app.set (.inr (by walk_at "m"))
 generalize (X2 ++ [O.clo 109 []] ++ [O.attrs []] ++ [O.inst 3 (B + 6)]).set (B + 6) (.attrs [(18,V.int (-93)),(24,.bytes [108,97,116,101,114]),(25,.ref (B + 5))]) = X3 at u3 Bl l6 G4 ⊢
 have F4 : Fr [3] H X3:=F3.trans2 G4 (by walk_at "ws")
 replace q1:=G4.get q1 (by walk_at "nm")
 replace k0:=G4.get k0 (by walk_at "nm")
 replace k2:=G4.get k2 (by walk_at "nm")
 replace el:=G4.get el (by walk_at "nm")
 replace z3:=G4.get z3 (by walk_at "nm")
 replace z2:=G4.get z2 (by walk_at "nm")
 clear G4 F3 u1 u2 l3 l4 l5
 clear X2
 refine (?_ : Tes _ _ _ [] _ _ _)
 walk_at "P"
 rw [l6]
 have lb : (X3 ++ [O.list [.none,.ref (B + 7)]])[B + 8]? = some (.list [.none,.ref (B + 7)]):=get_newL l6.symm
 refine Tf.use (c99 (get_app z3) (get_app z2) (by walk_at "m") (by decide)) (by walk_at "m") (fun v X4 hv=>?_) (fun _ _ h=>h.elim)
 (refine ex1_4 hv fun m z4q hm0 hm2 hX4=>?_; clear hv; subst z4q)
 have G5 : Fr [3] X3 X4:=by rw [hX4]; exact Fr.refl.app.set (.inl List.mem_cons_self)
 have l7 : X4.length = B + 9:=by rw [hX4,List.length_set,List.length_append,l6]; rfl
 replace lb : X4[B + 8]? = some (.list [.none,.ref (B + 7)]):=by rw [hX4]; exact get_ne (by walk_at "m") lb
 clear hX4 z3 z2
 obtain ⟨lt,hlt,hml⟩ : ∃ lt : V,(lt = .none ∨ lt = .ref (B + 7))∧[V.none,.ref (B + 7)][m.toNat]? = some lt:=by
  rcases (show m = 0 ∨ m = 1 by walk_at "m") with rfl | rfl
  ·exact in1_2 _ (.inl rfl) rfl
  ·exact in1_2 _ (.inr rfl) rfl
 have hmn : (m.toNat : Int) = m:=Int.toNat_of_nonneg hm0
 rw [← hmn]
 refine W.getI lb hml ?_
 have F5 : Fr [3] H X4:=F4.trans2 G5 (by walk_at "ws")
 replace q1:=G5.get q1 (by walk_at "nm")
 replace k0:=G5.get k0 (by walk_at "nm")
 replace k2:=G5.get k2 (by walk_at "nm")
 replace el:=G5.get el (by walk_at "nm")
 replace u3:=G5.get u3 (by walk_at "nm")
 replace Bl:=Bl.fr_ G5 (by walk_at "nm") (by walk_at "nm")
 clear G5 F4 l6 lb hml hmn hm0 hm2
 clear X3
 apply Tas.cel
 ·rfl
 ·exact k2
 have F6 : Fr [3] H (X4.set (B + 2) (.cell (some lt))):=F5.set (.inr (by walk_at "m"))
 have G6 : Fr [B + 2] X4 (X4.set (B + 2) (.cell (some lt))):=Fr.ln List.mem_cons_self
 have q2 : (X4.set (B + 2) (.cell (some lt)))[B + 2]? = some (.cell (some lt)):=get_eq k2
 have l8 : (X4.set (B + 2) (.cell (some lt))).length = B + 9:=by rw [List.length_set]; exact l7
 generalize X4.set (B + 2) (.cell (some lt)) = X5 at F6 G6 q2 l8 ⊢
 replace q1:=G6.get q1 (by walk_at "nm")
 replace k0:=G6.get k0 (by walk_at "nm")
 replace el:=G6.get el (by walk_at "nm")
 replace u3:=G6.get u3 (by walk_at "nm")
 replace Bl:=Bl.fr_ G6 (by walk_at "nm") (by walk_at "nm")
 clear G6 F5 l7 k2
 clear X4
 have T5 : SHF X5 tv:=T.fr_ F6 (by walk_at "ws")
 have x36:=T5.sh.inst
 have x35:=T5.sh.att
 walk_at "P"
 refine Te.lam (l:=[B + 1,B + 2,B]) rfl rfl ?_
 apply Tes.nil
 rw [l8]
 apply Tc.inst
 ·rfl
 ·rfl
 have l9 : (X5 ++ [O.clo 110 [B + 1,B + 2,B]]).length = B + 10:=by rw [List.length_append,l8]; rfl
 have l10 : (X5 ++ [O.clo 110 [B + 1,B + 2,B]] ++ [O.attrs []]).length = B + 11:=by rw [List.length_append,l9]; rfl
 rw [l9,show iniT 3 = 26 from rfl]
 have u1 : (X5 ++ [O.clo 110 [B + 1,B + 2,B]] ++ [O.attrs []] ++ [O.inst 3 (B + 10)])[B + 11]? = some (.inst 3 (B + 10)):=get_newL l10.symm
 have u2 : (X5 ++ [O.clo 110 [B + 1,B + 2,B]] ++ [O.attrs []] ++ [O.inst 3 (B + 10)])[B + 10]? = some (.attrs []):=get_app (get_newL l9.symm)
 refine (c26 (r:=B + 11) u1 u2).use (Nat.le_of_ble_eq_true rfl) ?_
 refine ⟨rfl,?_⟩
 have G7 : Fr [] X5 ((X5 ++ [O.clo 110 [B + 1,B + 2,B]] ++ [O.attrs []] ++ [O.inst 3 (B + 10)]).set (B + 10) (.attrs [(18,V.int (-94)),(24,.bytes [116,111,108,100]),(25,.ref (B + 9))])):=Fr.refl.app.app.app.set (.inr (by walk_at "m"))
 have Bt : BI ((X5 ++ [O.clo 110 [B + 1,B + 2,B]] ++ [O.attrs []] ++ [O.inst 3 (B + 10)]).set (B + 10) (.attrs [(18,V.int (-94)),(24,.bytes [116,111,108,100]),(25,.ref (B + 9))])) (B + 11) (B + 10) (.int (-94)) (.bytes [116,111,108,100]) (.ref (B + 9)):=⟨get_ne (by walk_at "m") u1,get_eq u2⟩
 have u4 : ((X5 ++ [O.clo 110 [B + 1,B + 2,B]] ++ [O.attrs []] ++ [O.inst 3 (B + 10)]).set (B + 10) (.attrs [(18,V.int (-94)),(24,.bytes [116,111,108,100]),(25,.ref (B + 9))]))[B + 9]? = some (.clo 110 [B + 1,B + 2,B]):=get_ne (by walk_at "m") (get_app (get_app (get_newL l8.symm)))
 have l11 : ((X5 ++ [O.clo 110 [B + 1,B + 2,B]] ++ [O.attrs []] ++ [O.inst 3 (B + 10)]).set (B + 10) (.attrs [(18,V.int (-94)),(24,.bytes [116,111,108,100]),(25,.ref (B + 9))])).length = B + 12:=by rw [List.length_set,List.length_append,l10]; rfl
 generalize (X5 ++ [O.clo 110 [B + 1,B + 2,B]] ++ [O.attrs []] ++ [O.inst 3 (B + 10)]).set (B + 10) (.attrs [(18,V.int (-94)),(24,.bytes [116,111,108,100]),(25,.ref (B + 9))]) = X6 at G7 Bt u4 l11 ⊢
 have F7 : Fr [3] H X6:=F6.trans2 G7 (by walk_at "ws")
 have TB : TO X6 (B + 11) (B + 10) (B + 9) B (B + 1) (B + 2) (B + 3) (.int (-94)) (.bytes [116,111,108,100]) lt:=⟨Bt,u4,G7.get k0 (by walk_at "nm"),G7.get q1 (by walk_at "nm"),G7.get q2 (by walk_at "nm")⟩
 replace el:=G7.get el (by walk_at "nm")
 replace u3:=G7.get u3 (by walk_at "nm")
 replace Bl:=Bl.fr_ G7 (by walk_at "nm") (by walk_at "nm")
 have T6 : SHF X6 tv:=T.fr_ F7 (by walk_at "ws")
 clear G7 F6 k0 q1 q2 u1 u2 u4 l8 l9 l10 Bt T5 x36 x35
 clear X5
 refine (?_ : Tes _ _ _ [] _ _ _)
 walk_at "P"
 refine (c23_old T6.sh (j:=2) (x:=.bytes [116,111,115,116,114,105,110,103]) rfl KS_simp (Nat.le_refl _) rfl).use (by decide) ?_
 have F8 : Fr [3,38] H (X6.set 38 (.list (LS (.ref (B + 11))))):=(Fr.sub (w':=[3,38]) F7 (by walk_at "ws")).set (.inl (by walk_at "nm"))
 have G8 : Fr [38] X6 (X6.set 38 (.list (LS (.ref (B + 11))))):=Fr.ln List.mem_cons_self
 have T7 : SHF (X6.set 38 (.list (LS (.ref (B + 11))))) (.ref (B + 11)):=T.new F8 (by
  intro a ha
  simp only [List.mem_cons,List.not_mem_nil,or_false] at ha
  walk_at "m") (T6.sh.set_old (j:=2) (v:=.ref (B + 11)))
 have l12 : (X6.set 38 (.list (LS (.ref (B + 11))))).length = B + 12:=by rw [List.length_set]; exact l11
 refine (?_ : Sq _ _ _ (X6.set 38 (.list (LS (.ref (B + 11))))))
 generalize X6.set 38 (.list (LS (.ref (B + 11)))) = X7 at F8 G8 T7 l12 ⊢
 replace TB:=TB.fr_ G8 (by walk_at "nm") (by walk_at "nm") (by walk_at "nm") (by walk_at "nm") (by walk_at "nm") (by walk_at "nm")
 replace el:=G8.get el (by walk_at "nm")
 replace u3:=G8.get u3 (by walk_at "nm")
 replace Bl:=Bl.fr_ G8 (by walk_at "nm") (by walk_at "nm")
 have S7 : HS X7 st dp fr frs:=S.fr_ F8 (by walk_at "nm") (by walk_at "nm") (by walk_at "nm") (by walk_at "nm") (by walk_at "nm")
 replace e8:=F8.get e8 (by walk_at "nm")
 clear G8 F7 T6 l11
 clear X6
 have hk0:=TB.e0
 have hk1:=TB.e1
 have hk2:=TB.e2
 obtain ⟨k,rfl⟩ : ∃ k : Nat,n = (k : Int):=⟨n.toNat,(Int.toNat_of_nonneg hn0).symm⟩
 have hk4 : k < 4:=by walk_at "m"
 walk_at "P"
 rw [l12]
 have l13 : (X7 ++ [O.list [.bool true,.int 5,.bytes [120]]]).length = B + 13:=by rw [List.length_append,l12]; rfl
 refine W.slice (a:=none) (b:=some k) (get_newL l12.symm) rfl rfl ?_
 rw [l13]
 walk_at "P"
 have hal : (cut [V.bool true,.int 5,.bytes [120]] none (some k)).length = k:=by
  rcases (show k = 0 ∨ k = 1 ∨ k = 2 ∨ k = 3 by walk_at "m") with rfl | rfl | rfl | rfl <;> rfl
 have har : (X7 ++ [O.list [.bool true,.int 5,.bytes [120]]] ++ [O.list (cut [V.bool true,.int 5,.bytes [120]] none (some k))])[B + 13]? = some (.list (cut [V.bool true,.int 5,.bytes [120]] none (some k))):=get_newL l13.symm
 have l14 : (X7 ++ [O.list [.bool true,.int 5,.bytes [120]]] ++ [O.list (cut [V.bool true,.int 5,.bytes [120]] none (some k))]).length = B + 14:=by rw [List.length_append,l13]; rfl
 have G9 : Fr [] X7 (X7 ++ [O.list [.bool true,.int 5,.bytes [120]]] ++ [O.list (cut [V.bool true,.int 5,.bytes [120]] none (some k))]):=Fr.refl.app.app
 have S8:=(S7.app (x:=O.list [.bool true,.int 5,.bytes [120]])).app (x:=O.list (cut [V.bool true,.int 5,.bytes [120]] none (some k)))
 have T8:=(T7.app (x:=O.list [.bool true,.int 5,.bytes [120]])).app (x:=O.list (cut [V.bool true,.int 5,.bytes [120]] none (some k)))
 generalize X7 ++ [O.list [.bool true,.int 5,.bytes [120]]] ++ [O.list (cut [V.bool true,.int 5,.bytes [120]] none (some k))] = X8 at har l14 G9 S8 T8 ⊢
 have F9 : Fr [3,38] H X8:=F8.trans2 G9 (by walk_at "ws")
 replace TB:=TB.fr_ G9 (by walk_at "nm") (by walk_at "nm") (by walk_at "nm") (by walk_at "nm") (by walk_at "nm") (by walk_at "nm")
 replace el:=G9.get el (by walk_at "nm")
 replace u3:=G9.get u3 (by walk_at "nm")
 replace Bl:=Bl.fr_ G9 (by walk_at "nm") (by walk_at "nm")
 replace e8:=G9.get e8 (by walk_at "nm")
 clear hk0 hk1 hk2 G9 F8 S7 T7 l12 l13
 clear X7
 refine Tf.use (heard_told S8 T8 (by walk_at "m") har (by walk_at "m") e8 (by decide) (by walk_at "m") TB el ⟨by walk_at "m",by walk_at "m",by walk_at "m",by walk_at "m",by walk_at "m",by walk_at "m",by walk_at "m",by walk_at "m"⟩ (by walk_at "m")) (by decide) (fun v X9 hv=>?_) (fun _ _ h=>h.elim)
 rw [hal] at hv
 (refine ex1_8 hv fun r z5q g1 g2 G10 S9 g5 g6 g7=>?_; clear hv; subst z5q)
 have F10 : Fr [3,6,8,38] H X9:=(Fr.refl (w:=[3,6,8,38]) (H:=H)).trans2 (F9.trans2 (v:=[]) Fr.refl (by walk_at "ws")) (by walk_at "ws") |>.trans2 G10 (by walk_at "ws")
 replace TB:=TB.fr_ G10 (by walk_at "nm") (by walk_at "nm") (by walk_at "nm") (by walk_at "nm") (by walk_at "nm") (by walk_at "nm")
 replace u3:=G10.get u3 (by walk_at "nm")
 replace Bl:=Bl.fr_ G10 (by walk_at "nm") (by walk_at "nm")
 have l15 : B + 14 ≤ X9.length:=by have:=G10.le; walk_at "m"
 have T9 : SHF X9 (if k = 0 then .ref (B + 11) else lt):=T.new F10 (by
  intro a ha
  simp only [List.mem_cons,List.not_mem_nil,or_false] at ha
  walk_at "m") g6
 have hk0:=TB.e0
 have hk1:=TB.e1
 have hk2:=TB.e2
 rw [l14] at g2 S9
 clear G10 F9 har T8 S8 g6 e8 el l14
 clear X8
 have tl : ∀ {Y : List O},Fr [] X9 Y→Tss 344 [B,B + 1,B + 2] [some (.ref 3),some (.ref 7),some (.int k),none] s105 Y (Rq (fun v H'=>v = .bool true∧Fr [3,6,8,38] H H')) (fun _ _=>False):=fun {Y} GY=>by
  have TY : SHF Y (if k = 0 then .ref (B + 11) else lt):=T9.fr_ GY (by walk_at "ws")
  have ly:=GY.le
  refine tail105 (S9.fr_ GY (by walk_at "nm") (by walk_at "nm") (by walk_at "nm") (by walk_at "nm") (by walk_at "nm")) TY (by walk_at "m") hB (by walk_at "m") (by walk_at "m") (GY.get hk0 (by walk_at "nm")) (GY.get hk2 (by walk_at "nm")) hlt (Bl.fr_ GY (by walk_at "nm") (by walk_at "nm")) (GY.get u3 (by walk_at "nm")) (GY.get g7 (by walk_at "nm")) (fun Y' FY=>⟨rfl,?_⟩)
  exact (F10.trans2 GY (by walk_at "ws")).trans2 FY (by walk_at "ws")
 walk_at "P"
 refine W.neL (t:=true) (get_app g1) get_new rfl ?_
 walk_at "P"
 have S10:=S9.app (x:=O.list [])
 have h7:=S10.h7
 have h6:=S10.h6
 unfold hostA at h6
 have hmin : (if (3 : Int) < (k : Int) then (3 : Int) else (k : Int)) = (k : Int):=if_neg (by walk_at "m")
 rw [List.length_replicate,hmin]
 refine Br.ndec (fun h=>absurd rfl h) (fun _=>?_)
 walk_at "P"
 rw [hmin]
 refine W.mulL get_new ⟨by rw [Int.natAbs_natCast]; walk_at "m",by decide⟩ ?_
 rw [Int.toNat_natCast,flat_one]
 walk_at "P"
 refine W.join get_new hk4 (by decide) ?_
 walk_at "P"
 refine W.neL (t:=true) (get_app (get_app (get_app (get_app g7)))) get_new (eqLL_b _) ?_
 apply W.truth
 apply Br.no rfl
 apply Tss.nil
 apply Sq.nxt
 exact tl Fr.refl.app.app.app.app
noncomputable def st1 : S:=.asgT [.loc 1,.loc 2] (.tup [.lst [.call (.glo (.ty 5)) [.slc (.loc 0) none (some (.cst (.int 30)))],.cst (.int 0)],.call (.glo (.cls 5)) [.call (.glo (.cls 0)) [],.cst (.bytes [61,108,97,119])]])
noncomputable def st2 : S:=.asg (.loc 3) (.call (.glo (.fn 98)) [.loc 2])
noncomputable def hq (xs : List Int) : List O:=match (ev 100).s [] [some (.ref 0),none,none,none,none] st1 [.frz (xs.map V.int)] with
 | .ok _ H=>H
 | _=>[]
theorem run1 (xs : List Int) (m : Nat) : (ev (m + 100)).s [] [some (.ref 0),none,none,none,none] st1 [.frz (xs.map V.int)] = .ok (.nxt,[some (.ref 0),some (.ref 3),some (.ref 7),none,none]) (hq xs):=by kernel_rfl
theorem run2 (xs : List Int) (m : Nat) : (ev (m + 200)).s [] [some (.ref 0),some (.ref 3),some (.ref 7),none,none] st2 (hq xs) = .ok (.nxt,[some (.ref 0),some (.ref 3),some (.ref 7),some (.ref 36),none]) (hp xs):=by kernel_rfl
theorem Ts.run' {k : Nat} {cs : List Nat} {ρ ρ1 : Lo} {s : S} {H H1 : List O} {Q : PF} {E : PE} (e : ∀ m,(ev (m + k)).s cs ρ s H = .ok (.nxt,ρ1) H1) (h : Q (.nxt,ρ1) H1) : Ts k cs ρ s H Q E:=by
 refine ⟨fun n hn=>?_⟩
 obtain ⟨m,rfl⟩ : ∃ m,n = m + k:=⟨n - k,by walk_at "m"⟩
 exact W.ok (e m) h
theorem Ts.le {k k' : Nat} {cs : List Nat} {ρ : Lo} {s : S} {H : List O} {Q : PF} {E : PE} (h : Ts k cs ρ s H Q E) (hk : k ≤ k') : Ts k' cs ρ s H Q E:=⟨fun n hn=>h.run n (Nat.le_trans hk hn)⟩
theorem cut_map (xs : List Int) : cut (xs.map V.int) none (some 30) = ((xs.drop 0).take 30).map V.int:=by
 unfold cut
 rw [List.map_take,List.map_drop]; rfl
theorem hp_len (xs : List Int) : (hp xs).length = 139:=rfl
theorem hp_hs (xs : List Int) : HS (hp xs) 0 0 9 []:=⟨rfl,rfl,rfl,rfl,rfl⟩
theorem hp_shf (xs : List Int) : SHF (hp xs) (.ref 44):=⟨⟨rfl,rfl,rfl,rfl,rfl,by decide⟩,⟨rfl,rfl,rfl,rfl,rfl,by decide⟩,⟨rfl,rfl⟩,⟨rfl,rfl⟩,rfl,rfl⟩
theorem c106 (xs : List Int) : Tf 380 106 [] [.ref 0] [.frz (xs.map V.int)] (fun v H'=>v = .bool true∧H'[0]? = some (.frz (xs.map V.int))) (fun _ _=>False):=by
 refine Tf.bodyL0 (F:=f106) (ρ:=[some (.ref 0),none,none,none,none]) rfl rfl rfl rfl ?_
 refine Tss.cons ?_
 refine Ts.le (k:=100) (Ts.run' (run1 xs) ?_) (by decide)
 apply Sq.nxt
 refine Tss.cons ?_
 refine Ts.le (k:=200) (Ts.run' (run2 xs) ?_) (by decide)
 apply Sq.nxt
 have e0 : (hp xs)[0]? = some (.frz (xs.map V.int)):=rfl
 have e3 : (hp xs)[3]? = some (.list [.ref 2,.int ((0 : Nat) : Int)]):=rfl
 have e2 : (hp xs)[2]? = some (.list (((xs.drop 0).take 30).map V.int)):=by rw [← cut_map]; rfl
 have e8 : (hp xs)[8]? = some (.list []):=rfl
 have hl:=hp_len xs
 have hS:=hp_hs xs
 have hT:=hp_shf xs
 generalize hp xs = H at e0 e3 e2 e8 hl hS hT ⊢
 refine Tss.cons (Ts.fo (Tsrc.rng1 ?_))
 walk_at "P"
 refine ⟨by decide,?_⟩
 refine Tfo.step (s1:=.rng (0 + 1) 1) (vs:=[.int 0]) rfl ?_
 walk_at "P"
 refine Tf.use (c103 hS hT e3 e2 (by decide) (by decide) (by walk_at "m") (by decide)) (by decide) (fun v H1 h=>?_) (fun _ _ h=>h.elim)
 obtain ⟨rfl,j1,st1,dp1,fr1,frs1,a1,a2,S1,a3,a4,F1⟩:=h
 have T1:=hT.fr_ F1 (by walk_at "ws")
 have b2:=F1.get e2 (by walk_at "nm")
 have l1:=F1.le
 walk_at "P"
 refine Tfo.step (s1:=.rng (0 + 1 + 1) 0) (vs:=[.int (0 + 1)]) rfl ?_
 walk_at "P"
 refine Tf.use (c103 S1 T1 a4 b2 (by walk_at "m") (by walk_at "m") (by walk_at "m") (by walk_at "m")) (by decide) (fun v H2 h=>?_) (fun _ _ h=>h.elim)
 obtain ⟨rfl,j2,st2,dp2,fr2,frs2,c1,c2,S2,c3,c4,F2⟩:=h
 have T2:=T1.fr_ F2 (by walk_at "ws")
 have b3:=F2.get b2 (by walk_at "nm")
 have l2:=F2.le
 have o2:=F2.get (F1.get e8 (by walk_at "nm")) (by walk_at "nm")
 have z2:=F2.get (F1.get e0 (by walk_at "nm")) (by walk_at "nm")
 walk_at "P"
 refine Tfo.done rfl ?_
 walk_at "P"
 have n38 : fr2 ≠ 38:=by walk_at "m"
 refine Tf.use (c105 S2 T2 c4 b3 o2 (by walk_at "m") (by walk_at "m") (by walk_at "m") (by walk_at "m") n38) (by decide) (fun v H3 h=>?_) (fun _ _ h=>h.elim)
 obtain ⟨rfl,F3⟩:=h
 walk_at "P"
 exact ⟨rfl,F3.get z2 (by walk_at "nm")⟩
theorem plain (xs : List Int) : ∃ H',(ev 390).fn 106 [] [.ref 0] [.frz (xs.map V.int)] = .ok (.bool true) H'∧H'[0]? = some (.frz (xs.map V.int)):=by
 rcases ((c106 xs).run 390 (by decide)).out with ⟨v,H',e,rfl,h⟩ | ⟨_,_,_,h⟩
 ·exact in1_2 H' e h
 ·exact h.elim
end Mp
end
section
set_option autoImplicit false
open PySem PySem.W PyProof.Rows
namespace Mp
theorem run_law {C : Cx} {s : Shared} {sc : Addr} {xs : List Int} {A : Around} {vs : List Value} {ep : Nat} {dd : Option Addr} {sl : Array (Option Value)} (D : Gd C)
  (hb : ∀ b o,C.base.get? b = some o→s.heap.get? b = some o) (ht : ∀ P,P ∈ C.tabs→s.heap.get? P = some ⟨.none,.none,.fields #[],#[]⟩)
  (hf : Free C sc) (hz : s.heap.get? sc = some ⟨.type "list",dd,.seq vs.toArray ep,sl⟩) (hfz : C.fzo = ⟨.type "list",dd,.seq vs.toArray ep,sl⟩) (hvs : ∀ φ N,All2 (VR C φ N) (xs.map V.int) vs) (hl : vs.length ≤ 100000)
  (h1 : A.frames = some []) (h2 : A.handled = none) (h3 : A.depth ≤ 500) (h4 : A.units ≤ 1000) :
  wpAny (model C.prog C.w) A (call (.ref (C.fa 106)) [.ref sc]) (fun v s'=>v = .bool true∧∃ φ' H',Ext C (fun _=>sc) [.frz (xs.map V.int)] s φ' H' s'∧Rel C φ' H' s'.heap∧H'[0]? = some (.frz (xs.map V.int))) (fun _ _=>False) s:=by
 have r : Rel C (fun _=>sc) [.frz (xs.map V.int)] s.heap:=by
  refine ⟨fun n o e=>?_,fun n m hn hm _=>?_,fun n _=>hf,hb,fun P hP=>⟨#[],ht P hP,?_,?_⟩⟩
  ·induction n with
   | zero=>
    have e' : O.frz (xs.map V.int) = o:=Option.some.inj e
    subst e'
    exact in1_2 _ hz (.frz (hvs _ _) hl hfz)
   | succ n=>injection e
  ·have a1 : n < 1:=hn
   have a2 : m < 1:=hm
   lia
  ·trivial
  ·intro pos c h
   injection h
 have rd : Rdy A [] 390:=⟨h1,h2,by lia,by lia⟩
 have h:=(all_snd D 390 390 (Nat.le_refl _)).fn (fl:=none) (s:=s) rd r (fun e he=>by cases he) (.inl rfl) (base_call D.g2 (k:=106) rfl r) (vals:=[.ref sc]) (as:=[.ref 0]) (.cons (.ref (φ:=fun _=>sc) 0 (Nat.zero_lt_one)) .nil)
 refine ex1_2 (plain xs) fun H' e e0=>?_
 refine wpAny_mono (wpAny_call (h (by rw [e]; intro hh; injection hh))) ?_ ?_
 ·intro v s' zq; obtain ⟨a,H1,φ',q1,q2,q3,q4⟩:=zq
  rw [e] at q1
  cases q1
  cases q4
  exact ⟨rfl,φ',H',q2,q3,e0⟩
 ·intro ce s' zq; obtain ⟨n,H1,φ',q1,_⟩:=zq
  rw [e] at q1
  injection q1
theorem old_law {C : Cx} {s s' : Shared} {sc : Addr} {xs : List Int} {φ' : Nat→Addr} {H' : List O} (x : Ext C (fun _=>sc) [.frz (xs.map V.int)] s φ' H' s') (r : Rel C φ' H' s'.heap) (e0 : H'[0]? = some (.frz (xs.map V.int))) (hz : s.heap.get? sc = some C.fzo)
  (hb : ∀ b o,s.heap.get? b = some o→b ≠ sc→b ∉ C.tabs→C.base.get? b = some o) (ht : ∀ P,P ∈ C.tabs→s.heap.get? P = some ⟨.none,.none,.fields #[],#[]⟩) (hc : ∀ P,P ∈ C.tabs→isCodeTable s.heap P) : OldK s.heap s'.heap:=by
 have h0 : s'.heap.get? sc = some C.fzo:=by
  refine ex1_2 (r.obj 0 _ e0) fun ob q1 q2=>?_
  rw [x.phi 0 Nat.zero_lt_one] at q1
  refine ex4_4 q2.inv fun vs ep dd sl z a b c=>?_
  rw [c,← z]; exact q1
 refine ⟨fun b o e=>?_,fun b o e=>x.live b o e⟩
 by_cases h1 : b = sc
 ·subst h1
  rw [hz] at e
  cases e
  exact .inl h0
 by_cases h2 : b ∈ C.tabs
 ·refine ex1_3 (r.tabs b h2) fun ps q1 q2 _=>?_
  rw [ht b h2] at e
  cases e
  refine .inr (.inl ⟨hc b h2,rfl,#[],ps,rfl,?_⟩)
  rw [q1,Array.empty_append]
 ·exact .inl (r.base b o (hb b o e h1 h2))
end Mp
end
section
set_option autoImplicit false
open PySem PySem.W PySem.W.X PyProof.Rows
namespace Mp
theorem arr_nil {α : Type} {a : Array α} (h : a.toList.isEmpty = true) : a = #[]:=by
 induction a with
 | mk l=>induction l using List.casesOn with
  | nil=>rfl
  | cons=>injection h
theorem tab0_eq {o : Obj} (h : tab0 o = true) : o = ⟨.none,.none,.fields #[],#[]⟩:=by
 obtain ⟨c,d,dt,sl⟩:=o
 unfold tab0 at h
 simp only [Bool.and_eq_true] at h
 obtain ⟨⟨⟨h1,h2⟩,h3⟩,h4⟩:=h
 cases beq_iff_eq.mp h1
 cases Option.isNone_iff_eq_none.mp h2
 cases arr_nil h4
 induction dt using Data.casesOn <;> first | injection h3; done | exact congrArg (fun x=>(⟨.none,.none,.fields x,#[]⟩ : Obj)) (arr_nil h3)
theorem tabT_snd {P : Addr} (h : P ∈ tabL) : ∃ c,(c,P) ∈ tabT:=by
 simp only [tabL,List.mem_cons,List.not_mem_nil,or_false] at h
 rcases h with rfl | rfl | rfl
 ·exact ⟨_,.head _⟩
 ·exact ⟨_,.tail _ (.head _)⟩
 ·exact ⟨_,.tail _ (.tail _ (.head _))⟩
theorem join_law {K : Frag} {prog : Program} {w : World} {mg mb : Str→Option Value} {s : Shared} {xs : List Int} {vs : List Value} {c : ClaimW} {cl : Str→Option Addr} {mean : ExcName→Option Value} {args : List WData}
  (hK : chkAll (subK K) = true) (hJ : joinOk K 836 = true) (KX : K.In s.heap) (hg : s.heap.Ns mainGlobals mg) (hb : s.heap.Ns builtinsNs mb) (hl : s.heap.NoLimit)
  (hbm : ∃ bm ob,mg "__builtins__" = some (.ref bm)∧bm ≠ builtinsNs∧s.heap.get? bm = some ob∧ob.cls = .type "module"∧ob.dict = some builtinsNs∧ob.data = .plain)
  (hz : s.heap.IsList 836 vs.toArray) (hi : IntsAre vs xs) (hn : vs.length ≤ 100000) (hgens : s.gens = #[])
  (hr : ∀ cls,c.raises args cls = false) (hp : c.post args (.bool true) args = true) :
  wpAny (model prog w) callerA (call (.ref 835) [.ref 836]) (fun v s'=>GoodWG c cl mean args s (.ok (.ret v)) s') (fun e s'=>GoodWG c cl mean args s (.error e) s') s:=by
 unfold joinOk at hJ
 rw [Bool.and_eq_true,List.all_eq_true] at hJ
 obtain ⟨hJ1,hJ2⟩:=hJ
 obtain ⟨oz,z1,z2,ep,z3⟩:=hz
 obtain ⟨zc,dd,zd,sl⟩:=oz
 subst z2; cases z3
 have tabs : ∀ P,P ∈ tabL→s.heap.get? P = some ⟨.none,.none,.fields #[],#[]⟩∧isCodeTable s.heap P:=by
  intro P hP
  obtain ⟨cd,hc⟩:=tabT_snd hP
  have:=hJ2 _ hc
  rw [Bool.and_eq_true] at this
  obtain ⟨h1,h2⟩:=this
  split at h2
  ·rename_i o e
   have e':=KX _ _ e
   rw [tab0_eq h2] at e'
   obtain ⟨o',vs',f,tf,fl,tg,b,n,tt,q1,q2,q3,q4,q5⟩:=codeHd_of_K KX h1
   exact ⟨e',cd,o',vs',q1,q2,q3,q4⟩
  ·injection h2
 have keep : ∀ b o,s.heap.get? b = some o→b ≠ 836→b ∉ tabL→(hideAll s.heap (836 :: tabL)).get? b = some o:=fun b o e h1 h2=>hideAll_get _ e fun h=>by
  rcases List.mem_cons.mp h with h | h
  ·exact h1 h
  ·exact h2 h
 have ns : ∀ a m,s.heap.Ns a m→a ≠ 836→a ∉ tabL→(hideAll s.heap (836 :: tabL)).Ns a m:=fun a m h h1 h2=>by
  (refine ex3_2 h fun o es ep e r=>?_; clear h)
  exact in3_2 o es ep (keep _ _ e h1 h2) r
 have X : (subK K).In (hideAll s.heap (836 :: tabL)):=fun a o e=>by
  obtain ⟨e1,e2⟩:=sub_lookup e
  refine keep _ _ (KX _ _ e1) (fun h=>?_) e2
  subst h
  rw [e1] at hJ1
  injection hJ1
 have D : Gd (mkC (subK K) prog w (hideAll s.heap (836 :: tabL)) mg mb ⟨.type "list",dd,.seq vs.toArray ep,sl⟩):=by
  refine gd_good hK X (ns _ _ hg (by decide) (by decide)) (ns _ _ hb (by decide) (by decide)) ?_ (fun P hP=>hideAll_none _ (.tail _ hP)) fun P hP=>?_
  ·(refine ex1_2 hl fun mc h1 h2=>?_; clear hl)
   exact in1_2 mc (ns _ _ h1 (by decide) (by decide)) h2
  ·(refine ex2_6 hbm fun bm ob h1 h2 h3 h4 h5 h6=>?_; clear hbm)
   have hm : bm ≠ mainGlobals:=by
    rintro rfl
    (refine ex3_3 hg fun o es ep e e2 _=>?_; clear hg)
    rw [h3] at e
    cases e
    rw [h6] at e2
    injection e2
   have ht : ∀ Q,Q ∈ tabL→bm ≠ Q:=by
    rintro Q hQ rfl
    have:=(tabs bm hQ).1
    rw [h3] at this
    cases this
    cases h4
   have hs : bm ≠ 836:=by
    rintro rfl
    rw [z1] at h3
    cases h3
    injection h4 with h4
    exact absurd h4 (by decide)
   exact in2_8 bm ob h1 h2 hm (ht P hP) (keep _ _ h3 hs fun h=>ht _ h rfl) h4 h5 h6
 have L:=run_law (sc:=836) (A:=callerA) D (s:=s) (xs:=xs) (vs:=vs) (ep:=ep) (dd:=dd) (sl:=sl) (fun b o e=>of_hideAll _ e) (fun P hP=>(tabs P hP).1) ⟨hideAll_none _ (.head _),by show (836 : Nat) ∉ tabL; decide⟩ z1 rfl (fun φ N=>vr_ints hi) hn rfl rfl (by decide) (by decide)
 refine wpAny_mono L ?_ fun _ _ x=>x.elim
 intro v s' zq; obtain ⟨rfl,φ',H',x,r,e0⟩:=zq
 exact ⟨.inl ⟨_,_,[],rfl,hr,ReadsW.bool true,hp,fun _=>⟨List.nodup_nil,fun _ hm=>nomatch hm⟩⟩,
  old_law x r e0 z1 keep (fun P hP=>(tabs P hP).1) (fun P hP=>(tabs P hP).2),x.os,AllBare.of_eq (x.gens.trans hgens)⟩
end Mp
end
section
open PySem PySem.W PySem.W.X PyProof.Rows
namespace Mp
theorem law_call {q : Program} {loose : List Str} {R : WRecords} {XP : (Str→Option Value)→Heap→Prop} {w : World} {s₀ s₁ : Shared} {mg mb : Str→Option Value} {c : ClaimW} {xs : List Int} {vs : List Value} {cl : Str→Option Addr} {mean : ExcName→Option Value} {args : List WData} {prog : Program} {fa sc : Addr}
  (G : Ground q loose R XP w s₀ mg mb s₁.heap) (y : Yq s₀ = true) (hsz : s₀.heap.objs.size = sc) (hk : ∀ b o,s₀.heap.get? b = some o→s₁.heap.get? b = some o) (hmg : mg "law" = some (.ref fa))
  (hz : s₁.heap.IsList sc vs.toArray) (hi : IntsAre vs xs) (hn : vs.length ≤ 100000) (hgens : s₁.gens = #[]) (hr : ∀ cls,c.raises args cls = false) (hp : c.post args (.bool true) args = true) :
  wpAny (model prog w) callerA (call (.ref fa) [.ref sc]) (fun v s'=>GoodWG c cl mean args s₁ (.ok (.ret v)) s') (fun e s'=>GoodWG c cl mean args s₁ (.error e) s') s₁:=by
 unfold Yq Y1 Y2 Y3 at y
 simp only [Bool.and_eq_true] at y
 obtain ⟨⟨⟨y1,y2,y3⟩,yb⟩,⟨⟨ya,yf⟩,yl⟩,ye⟩:=y
 have y4 : chkAll (subK (fragOf s₀.heap)) = true:=by
  unfold chkAll
  rw [ya,yf,yl,yb,ye]
  rfl
 have X : (fragOf s₀.heap).In s₁.heap:=(fragOf_in s₀.heap).keeps hk
 have e1 : sc = 836:=hsz.symm.trans (Nat.eq_of_beq_eq_true y1)
 subst e1
 have e2 : fa = 835:=by
  have:=(ns_some X G.T.g (beq_iff_eq.mp y2)).symm.trans hmg
  injection this with this
  injection this with this
  exact this.symm
 subst e2
 exact join_law y4 y3 X G.T.g G.T.b G.T.nolimit G.T.bmain hz hi hn hgens hr hp
end Mp
set_option maxHeartbeats 0 in
theorem PySem.Challenge.cw_rh0168_01_holds : PySem.Challenge.rw_rh0168_01.Holds := by
 refine holds_law Mp.said fun said=>?_
 refine holds_openX (q:=Mp.qv) (loose:=Mp.lo) (Xt:=fun _=>true) (XP:=fun _ _=>True) (Yf:=Mp.Yq) (Ya:=fun _=>true) (N:=9504) Mp.left (fun _ _=>trivial) (fun _ _ _ _ _=>trivial) (by rfl) (by rfl) (by rfl) (fun _ _=>recFacts_nil rfl) rfl said (by decide +kernel) ⟨rfl,rfl,rfl,rfl,rfl,by decide +kernel⟩ ?hw ?hc
 case hw=>w_witness2
 intro w s₀ s₁ mg mb G y fa o pm cd doc dV kV ho hd hcd hD hmg hg args vals as L hpre hlay hrd hwl hlo
 wrow_args hpre hlay hrd hwl hlo
 obtain ⟨hat,hsz⟩:=script_at L
 rename IntsAre _ _=>hI
 rename ¬ _=>hcond
 rename Heap.IsList _ _ _=>hL
 have hn:=hI.length
 refine Mp.law_call G y hat.symm L.keeps hmg hL hI ?_ hg (fun _=>rfl) ?_
 ·lia
 ·first | rfl | wrow_post
end
