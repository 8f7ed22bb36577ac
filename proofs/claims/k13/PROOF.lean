import PyProof.Rows.All
import Wide.All
import OpenK.AllK
import Wide.FinOn
import HandS.ForMost
import HandS.ForExc
import HandS.TupAny
import HandS.TupMul
import HandS.IsInst
import HandS.SortInts
import HandS.Conv
import HandS.Wide
import HandS.EndBits
import HandS.Flow
import HandS.Base
import HandS.Call
import HandS.List
import PyProof.StrBlock
import PyProof.SeqIndex
import PyProof.P3In
import HandS.NoneIn
import HandS.Style
import KE.DataFind
import PyProof.AutoSeq1
import HandS.CallSlots
import HandS.Zip
import HandS.SetFor
import HandS.Set
import KE.GoesMore
import PyProof.InstEq
import PySem.Challenge.RW_goesout_k13_families_made_and_known
set_option Elab.async false
set_option linter.all false
set_option maxRecDepth 100000
/-! The layer's ground: defs that are called with no guard on the stack (so that repr is exact), tuples that are known to the object. -/
namespace Gz
open PySem PySem.Spec PyProof.Rows L2

/-- a def keeps its promise wherever no repr is under way -/
structure FG (P : Program) (w : World) (K : PySem.W.Frag) (mg : Str → Option Value) (base : Heap) (C : CXT) (k : Nat) (f : Addr) (fd : FuncData) (ps : List Str) (sp : Sp) : Prop where
  len : ∀ vs H Q E, sp vs H Q E → vs.length = ps.length
  run : ∀ (A : Around) (out : List Env) (s : Shared) (H : Hp) (args : Args) (us : List Value) (vs : List V) (Q : VK) (E : XK),
    A.guards = some [] → Room k A → Env0 P w K mg base A out s H → BindsTo s fd args (ps.zip us) → Vals vs us → sp vs H Q E →
    codeAny (model P w) A (.call (.ref f) args) (CR C out P w H s Q E) s

theorem FG.imp {P : Program} {w : World} {K : PySem.W.Frag} {mg : Str → Option Value} {base : Heap} {C : CXT} {k : Nat} {f : Addr} {fd : FuncData} {ps : List Str} {sp sq : Sp} (F : FG P w K mg base C k f fd ps sp)
    (i : ∀ vs H Q E, sq vs H Q E → sp vs H Q E) : FG P w K mg base C k f fd ps sq where
  len vs H Q E q := F.len vs H Q E (i vs H Q E q)
  run A out s H args us vs Q E g r e b v q := F.run A out s H args us vs Q E g r e b v (i vs H Q E q)

theorem fg_of {C : CXT} {P : Program} {w : World} {K : PySem.W.Frag} {mg : Str → Option Value} {base : Heap} {k : Nat} {f : Addr} {x qual : Str} {st : Stmt} {fd : FuncData} {N ps : List Str} {sp : Sp}
    (F : Fun K x qual st f fd) (S : FnScope N ps (defScope st)) (len : ∀ vs H Q E, sp vs H Q E → vs.length = ps.length)
    (body : ∀ (cdv : Value) (A : Around) (out : List Env) (s : Shared) (H : Hp) (vs : List V) (Q : VK) (E : XK), A.guards = some [] →
      Room k (A.deeper (envOfC qual (defScope st) s.heap.objs.size f cdv)) → sp vs H Q E →
      ∃ t, PSs (cxOf C P w K mg base N qual (defScope st) f cdv A out s H E) (defBody st) t ∧ t { nx := fun _ H' => Q .non H', rt := Q } (start N vs) H) :
    FG P w K mg base C (k + 1) f fd ps sp := by
  obtain ⟨oc, od, kV, doc, pm, an, cdv, ct, osl, rfl, lk, hcd⟩ := F.ex
  refine ⟨len, ?_⟩
  intro A out s H args us vs Q E hg hr e0 hb r hsp
  have hl := len vs H Q E hsp
  have KX : K.In s.heap := e0.mod.kin.keeps (fun b o e => And.left (e0.bs b o e))
  have lim : s.heap.NoLimit := e0.mod.nolimit.keeps (fun b o e => And.left (e0.bs b o e))
  have kinds : ∀ y ∈ ps.zip us, (defScope st).names.lookup y.1 = some .local ∨ ((defScope st).names.lookup y.1 = some .cell ∧ ((cellsFrom (s.heap.objs.size + 1) (defScope st).names []).lookup y.1).isSome = true) := by
    rintro ⟨n, v⟩ hy
    have hn := S.par n (List.of_mem_zip hy).1
    exact hn.imp id fun q => ⟨q, PySem.W.cellsFrom_some _ _ _ (Or.inl q)⟩
  refine codeAny_call_function hr.depth (KX f _ lk) rfl S.co S.gen rfl (PySem.W.codeRec_of KX hcd) (hb _ _ _ _ ?_)
  refine wpAny_newFunctionEnv_cells S.kind kinds ?_
  intro env he s1 x
  subst he
  refine ⟨NoLimit_keeps lim x, codeAny_func ?_⟩
  obtain ⟨t, ht, hq⟩ := body cdv A out s H vs Q E hg (hr.deeper _) hsp
  have I := inv_start (CX := C) (E := E) S hr.hd e0 hl r x
  refine wpAny_mono (ht.run [] s1 (start N vs) H _ I hq) (fun fl s' hs => ?_) (fun _ _ hs => hs)
  cases fl with
  | ret u =>
    obtain ⟨v, sg, H', J, rv, q⟩ := hs
    exact ⟨v, H', J.os, J.bare, J.base, J.hok, rv, q⟩
  | next =>
    obtain ⟨sg, H', J, q⟩ := hs
    exact ⟨V.non, H', J.os, J.bare, J.base, J.hok, rfl, q⟩
  | brk =>
    obtain ⟨_, _, _, q⟩ := hs
    exact q.elim
  | cont =>
    obtain ⟨_, _, _, q⟩ := hs
    exact q.elim
where
  NoLimit_keeps {s s1 : Shared} {a b c d} (lim : s.heap.NoLimit) (x : InCallC s a b c d s1) : s1.heap.NoLimit := lim.keeps x.toInCall.keep
end Gz
/-! The interpreter: plain values, the core language, what a def does. No heap here. -/
namespace Gz
open PySem L2

/-- plain values; loc: a list that is changed in place (by its number in the store); fz: the script -/
inductive Val where
  | non | bl (b : Bool) | int (i : Int) | str (x : Str)
  | tup (xs : List Val) | lst (xs : List Val) | fz (xs : List Int) | dct (kvs : List (Key × Val)) | loc (i : Nat) | fn (f : Nat)
  deriving Inhabited

/-- a slot: a value, or a list that this slot alone holds -/
inductive Slot where
  | val (v : Val) | own (xs : List Val) | dic (kvs : List (Key × Val))
/-- held by this slot alone -/
def Slot.held : Slot → Bool
  | .val _ => false
  | _ => true
abbrev Rho := List (Option Slot)
abbrev Sto := List (List Val)
/-- what an expression gives: a value, or a list that is new -/
inductive Rv where
  | val (v : Val) | fr (xs : List Val) | fd (kvs : List (Key × Val))
def Rv.v : Rv → Val
  | .val v => v
  | .fr xs => .lst xs
  | .fd kvs => .dct kvs
/-- an exception: its class's name, its field -/
structure Exn where
  cls : Nat
  arg : Option Val := none

inductive Rs (a : Type) where
  | ok (x : a) (r : Rho) (s : Sto)
  | exc (e : Exn) (r : Rho) (s : Sto)
  | err
/-- a call's end -/
inductive Fr where
  | ok (x : Rv) (s : Sto)
  | exc (e : Exn) (s : Sto)
  | err
abbrev FT := Nat → List Val → Sto → Fr

def Rs.bind {a b : Type} (x : Rs a) (f : a → Rho → Sto → Rs b) : Rs b := match x with
  | .ok y r s => f y r s
  | .exc e r s => .exc e r s
  | .err => .err
@[simp] theorem bind_ok {a b : Type} (y : a) (r : Rho) (s : Sto) (f : a → Rho → Sto → Rs b) : (Rs.ok y r s).bind f = f y r s := rfl
@[simp] theorem bind_exc {a b : Type} (e : Exn) (r : Rho) (s : Sto) (f : a → Rho → Sto → Rs b) : (Rs.exc e r s).bind f = .exc e r s := rfl
@[simp] theorem bind_err {a b : Type} (f : a → Rho → Sto → Rs b) : (Rs.err : Rs a).bind f = .err := rfl

/-! ### data -/
def keyD : Key → PyData
  | .inl i => .int i
  | .inr z => .str z
mutual
def toD : Val → Option PyData
  | .non => some .none
  | .bl b => some (.bool b)
  | .int i => some (.int i)
  | .str x => some (.str x)
  | .tup xs => (toDs xs).map .tuple
  | .lst xs => (toDs xs).map .list
  | .dct kvs => (toDk kvs).map .dict
  | .fz _ => none
  | .loc _ => none
  | .fn _ => none
def toDs : List Val → Option (List PyData)
  | [] => some []
  | x :: xs => match toD x, toDs xs with
    | some d, some ds => some (d :: ds)
    | _, _ => none
def toDk : List (Key × Val) → Option (List (PyData × PyData))
  | [] => some []
  | (k, x) :: r => match toD x, toDk r with
    | some d, some ds => some ((keyD k, d) :: ds)
    | _, _ => none
end
/-- == -/
def shortEq : Val → Val → Option Bool
  | .tup [], .tup ys => some ys.isEmpty
  | .tup (_ :: _), .tup [] => some false
  | .lst xs, .lst ys => if xs.length = ys.length then none else some false
  | .str x, .str y => some (x == y)
  | _, _ => none
def dataEq (x y : Val) : Option Bool := match toD x, toD y with
  | some d, some e => if SeqAt.shaped d && SeqAt.shaped e then some (PyData.eqv d e) else none
  | _, _ => none
def eqq (x y : Val) : Option Bool := match shortEq x y with
  | some b => some b
  | none => dataEq x y
/-- repr -/
def rep (x : Val) : Option Str := match toD x with
  | some d => if d.showable && decide (d.depth ≤ 60) && decide (d.shown.length ≤ sizeLine) then some d.shown else none
  | none => none
def flat : Val → Bool
  | .non | .bl _ | .int _ | .str _ => true
  | _ => false
def flatEq : Val → Val → Bool
  | .non, .non => true
  | .bl a, .bl b => a == b
  | .bl a, .int b => (if a then 1 else 0) == b
  | .int a, .bl b => a == (if b then 1 else 0)
  | .int a, .int b => a == b
  | .str a, .str b => a == b
  | _, _ => false
/-- the built-in class of a value -/
def tyName : Val → Option String
  | .non => some "NoneType"
  | .bl _ => some "bool"
  | .int _ => some "int"
  | .str _ => some "str"
  | .tup _ => some "tuple"
  | .lst _ => some "list"
  | .dct _ => some "dict"
  | _ => none
def isiv (x : Val) (t : String) : Option Bool := match x with
  | .non => some (t == "NoneType")
  | .bl _ => some (t == "bool" || t == "int")
  | .int _ => some (t == "int")
  | .str _ => some (t == "str")
  | .tup _ => some (t == "tuple")
  | .lst _ => some (t == "list")
  | .dct _ => some (t == "dict")
  | _ => none
def ints? : List Val → Option (List Int)
  | [] => some []
  | .int i :: r => (ints? r).map (i :: ·)
  | _ :: _ => none
def bools? : List Val → Option (List Bool)
  | [] => some []
  | .bl b :: r => (bools? r).map (b :: ·)
  | _ :: _ => none
def strs? : List Val → Option (List Str)
  | [] => some []
  | .str b :: r => (strs? r).map (b :: ·)
  | _ :: _ => none

/-! ### the core language -/
inductive Bop where
  | add | sub | mul | fdiv | mod | pow
  deriving DecidableEq
inductive Cop where
  | eq | ne | lt | le | gt | ge | is | isnot | in_ | notin
  deriving DecidableEq
/-- built-in functions of one argument, of two -/
inductive Bf where
  | len | tuple | list | sorted | all | any | sum | repr | max2 | min2 | str | abs | max1 | min1
  deriving DecidableEq
/-- methods -/
inductive Mt where
  | index | count
  deriving DecidableEq
mutual
inductive CE where
  | var (i : Nat)
  | cst (v : Val)
  | bin (op : Bop) (a b : CE)
  | neg (a : CE)
  | cmp (op : Cop) (a b : CE)
  | inV (ng : Bool) (a : CE) (i : Nat)
  | inF (ng : Bool) (a : CE) (fs : List Nat)
  | chn (o1 o2 : Cop) (a b c : CE)
  | and (a b : CE)
  | or (a b : CE)
  | not (a : CE)
  | ite (c a b : CE)
  | tup (es : CEs)
  | lst (es : CEs)
  | lstL (es : CEs)
  | dct (kvs : List (Key × Val))
  | call (f : Nat) (es : CEs)
  | callv (e : CE) (es : CEs)
  | bltV (f : Bf) (i : Nat)
  | blt (f : Bf) (es : CEs)
  | isiV (i : Nat) (t : String)
  | isi (a : CE) (t : String)
  | idxV (i : Nat) (b : CE)
  | idx (a b : CE)
  | slc (a : CE) (lo hi : CO)
  | rev (a : CE)
  | upp (a : CE)
  | mth (m : Mt) (a : CE) (es : CEs)
  | mthV (m : Mt) (i : Nat) (es : CEs)
  | app (i : Nat) (e : CE)
  | popAt (i : Nat) (e : CE)
  | pop (i : Nat)
  | ins (i : Nat) (k e : CE)
  | rmv (i : Nat) (e : CE)
  | popD (i : Nat) (e : CE)
  | dctE (k v : CE)
  | dctM (ks : List Int) (es : CEs)
  | lenSet (a : CE)
  | srtSet (a : CE)
  | rng (tupl : Bool) (lo hi : CO)
  | lc (it : CI) (tg : List Nat) (cond : CO) (elt : CE)
  | nev
inductive CEs where
  | nil
  | cons (e : CE) (r : CEs)
inductive CO where
  | no
  | so (e : CE)
/-- what is walked -/
inductive CI where
  | seq (e : CE)
  | rng (lo : CO) (hi : CE)
  | enum (e : CE)
  | zip (a b : CE)
end
mutual
inductive CS where
  | asg (i : Nat) (e : CE)
  | asgT (is : List Nat) (e : CE)
  | asgN (tgs : List (List Nat)) (e : CE)
  | par (is : List Nat) (es : CEs)
  | parG (tgs : List (Nat × Option CE)) (es : CEs)
  | set (i : Nat) (k e : CE)
  | setD (i : Nat) (k e : CE)
  | exp (e : CE)
  | retV (i : Nat)
  | ret (e : CE)
  | retN
  | ifs (c : CE) (a b : CSs)
  | for_ (tg : List Nat) (it : CI) (b : CSs)
  | while_ (c : CE) (b : CSs)
  | raise (x : Nat)
  | try_ (b : CSs)
  | aug (i : Nat) (op : Bop) (e : CE)
  | pass
  | brk
  | cnt
  | nev
inductive CSs where
  | nil
  | cons (s : CS) (r : CSs)
end
structure Def where
  ps : Nat
  n : Nat
  body : CSs

/-! ### what operators do -/
def binop (op : Bop) (x y : Val) : Option Rv := match op, x, y with
  | .add, .int i, .int j => some (.val (.int (i + j)))
  | .add, .str i, .str j => if i.length + j.length ≤ sizeLine then some (.val (.str (i ++ j))) else none
  | .add, .tup xs, .tup ys => if xs.length + ys.length ≤ sizeLine then some (.val (.tup (xs ++ ys))) else none
  | .add, .lst xs, .lst ys => if xs.length + ys.length ≤ sizeLine then some (.fr (xs ++ ys)) else none
  | .sub, .int i, .int j => some (.val (.int (i - j)))
  | .mul, .int i, .int j => if (-(2 ^ 64) < i ∧ i < 2 ^ 64) ∨ (-(2 ^ 64) < j ∧ j < 2 ^ 64) then some (.val (.int (i * j))) else none
  | .mul, .tup xs, .int k => if xs ≠ [] ∧ 2 ≤ k ∧ k ≤ 1000 ∧ xs.length ≤ 1000 then some (.val (.tup (List.replicate k.toNat xs).flatten)) else if k = 1 then some (.val (.tup xs)) else if k = 0 ∧ xs ≠ [] then some (.val (.tup [])) else none
  | .mul, .lst xs, .int k => if -(2 ^ 63) ≤ k ∧ k < 2 ^ 63 ∧ xs.length * k.toNat ≤ sizeLine then some (.fr (List.replicate k.toNat xs).flatten) else none
  | .fdiv, .int i, .int j => if 0 < j ∧ j < 1073741824 then some (.val (.int (i / j))) else none
  | .mod, .int i, .int j => if 0 < j then some (.val (.int (i % j))) else none
  | .pow, .int i, .int j => if 0 ≤ j ∧ j ≤ 1000000 ∧ i.natAbs < 2 ^ 64 then some (.val (.int (i ^ j.toNat))) else none
  | _, _, _ => none
/-- an item z beside y: z == y -/
def elEq (z y : Val) : Option Bool := if flat z && flat y then some (flatEq z y) else match z, y with
  | .dct _, .int _ => some false
  | .tup _, .int _ => some false
  | .lst _, .int _ => some false
  | _, _ => dataEq z y
def elEqs (y : Val) : List Val → Option (List Bool)
  | [] => some []
  | z :: r => match elEq z y, elEqs y r with
    | some b, some bs => some (b :: bs)
    | _, _ => none
/-- dicts -/
def valK (kvs : List (Key × Val)) (k : Key) : Option Val := (kvs.find? fun kv => decide (kv.1 = k)).map (·.2)
def putV (kvs : List (Key × Val)) (k : Key) (v : Val) : List (Key × Val) :=
  if (kvs.any fun kv => decide (kv.1 = k)) = true then kvs.map (fun kv => if kv.1 = k then (kv.1, v) else kv) else kvs ++ [(k, v)]
def dropV (kvs : List (Key × Val)) (k : Key) : List (Key × Val) := kvs.filter fun kv => decide (kv.1 ≠ k)
def isin (x : Val) (y : Val) : Option Bool := match y with
  | .dct kvs => match x with
    | .int i => some (valK kvs (.inl i)).isSome
    | .non => some false
    | _ => none
  | .tup ys => (elEqs x ys).map fun bs => bs.any id
  | .lst ys => (elEqs x ys).map fun bs => bs.any id
  | _ => none
def cmpop (op : Cop) (x y : Val) : Option Bool := match op with
  | .eq => eqq x y
  | .ne => (eqq x y).map (!·)
  | .lt => match x, y with | .int i, .int j => some (decide (i < j)) | _, _ => none
  | .le => match x, y with | .int i, .int j => some (decide (i ≤ j)) | _, _ => none
  | .gt => match x, y with | .int i, .int j => some (decide (j < i)) | _, _ => none
  | .ge => match x, y with | .int i, .int j => some (decide (j ≤ i)) | _, _ => none
  | .is => match y with | .non => some (match x with | .non => true | _ => false) | .bl b => (match x with | .bl c => some (c == b) | _ => none) | _ => none
  | .isnot => match y with | .non => some (match x with | .non => false | _ => true) | .bl b => (match x with | .bl c => some (!(c == b)) | _ => none) | _ => none
  | .in_ => isin x y
  | .notin => (isin x y).map (!·)
/-- the greatest, the least one -/
def maxI : List Int → Option Int
  | [] => none
  | x :: r => some (r.foldl (fun a b => if a < b then b else a) x)
def minI : List Int → Option Int
  | [] => none
  | x :: r => some (r.foldl (fun a b => if b < a then b else a) x)
/-- each one once, as they come -/
def dedI (ns : List Int) : List Int := ns.foldl (fun acc x => if acc.any (· == x) then acc else acc ++ [x]) []
/-- the ints of a row -/
def intsOf : Val → Option (List Int)
  | .tup xs => ints? xs
  | .lst xs => ints? xs
  | _ => none
def bltop (f : Bf) (vs : List Val) : Option Rv := match f, vs with
  | .len, [.tup xs] => some (.val (.int xs.length))
  | .len, [.lst xs] => some (.val (.int xs.length))
  | .len, [.fz xs] => some (.val (.int xs.length))
  | .len, [.dct kvs] => some (.val (.int kvs.length))
  | .len, [.str x] => if x.length ≤ sizeLine then some (.val (.int x.length)) else none
  | .tuple, [.lst xs] => some (.val (.tup xs))
  | .tuple, [.tup xs] => some (.val (.tup xs))
  | .list, [.lst xs] => some (.fr xs)
  | .list, [.tup xs] => some (.fr xs)
  | .sorted, [.lst xs] => (ints? xs).map fun ns => .fr ((ns.mergeSort fun a b => decide (a ≤ b)).map .int)
  | .sorted, [.tup xs] => (ints? xs).map fun ns => .fr ((ns.mergeSort fun a b => decide (a ≤ b)).map .int)
  | .all, [.lst xs] => (bools? xs).map fun bs => .val (.bl (bs.all id))
  | .sum, [.lst xs] => (ints? xs).map fun ns => .val (.int ns.sum)
  | .repr, [x] => (rep x).map fun z => .val (.str z)
  | .max2, [.int i, .int j] => some (.val (.int (if j > i then j else i)))
  | .min2, [.int i, .int j] => some (.val (.int (if j < i then j else i)))
  | .max1, [.tup xs] => (ints? xs).bind fun ns => (maxI ns).map fun i => .val (.int i)
  | .max1, [.lst xs] => (ints? xs).bind fun ns => (maxI ns).map fun i => .val (.int i)
  | .min1, [.tup xs] => (ints? xs).bind fun ns => (minI ns).map fun i => .val (.int i)
  | .min1, [.lst xs] => (ints? xs).bind fun ns => (minI ns).map fun i => .val (.int i)
  | .str, [.int i] => if i.natAbs.log2 < 1920 then some (.val (.str (toString i))) else none
  | _, _ => none
def idxop (x y : Val) : Option Val := match x, y with
  | .tup xs, .int i => atI xs i
  | .lst xs, .int i => atI xs i
  | .fz xs, .int i => (atI xs i).map .int
  | .dct kvs, .int i => valK kvs (.inl i)
  | _, _ => none
def cut (xs : List Val) (lo hi : Option Int) : List Val := (xs.drop (HT.sIx xs.length 0 lo)).take (HT.sIx xs.length xs.length hi - HT.sIx xs.length 0 lo)
def slcop (x : Val) (lo hi : Option Int) : Option Rv := match x with
  | .tup xs => some (.val (.tup (cut xs lo hi)))
  | .lst xs => some (.fr (cut xs lo hi))
  | _ => none
def revop (x : Val) : Option Rv := match x with
  | .tup xs => some (.val (.tup xs.reverse))
  | .lst xs => some (.fr xs.reverse)
  | _ => none
/-- the first place of an equal item -/
def seqMt (m : Mt) (xs : List Val) (y : Val) : Option Val := match elEqs y xs with
  | some bs => match m with
    | .index => (bs.findIdx? id).map fun j => .int ((j : Nat) : Int)
    | .count => some (.int ((bs.countP id : Nat) : Int))
  | none => none
def mthop (m : Mt) (x : Val) (vs : List Val) : Option Val := match x, vs with
  | .tup xs, [y] => seqMt m xs y
  | .lst xs, [y] => seqMt m xs y
  | _, _ => none
/-- what a walk yields -/
def items (x : Val) : Option (List Val) := match x with
  | .tup xs => some xs
  | .lst xs => some xs
  | _ => none
/-- numbered -/
def numd (xs : List Val) : List Val := xs.zipIdx.map fun p => .tup [.int ((p.2 : Nat) : Int), p.1]
def rngI (lo hi : Int) : List Int := (List.range (hi - lo).toNat).map fun i => lo + (i : Nat)
def rngOk (lo hi : Int) : Bool := decide (-(2 ^ 62) ≤ lo ∧ lo < 2 ^ 62 ∧ -(2 ^ 62) ≤ hi ∧ hi < 2 ^ 62)

/-! ### evaluation -/
def lift {a : Type} (o : Option a) (r : Rho) (s : Sto) : Rs a := match o with
  | some x => .ok x r s
  | none => .err
@[simp] theorem lift_some {a : Type} (x : a) (r : Rho) (s : Sto) : lift (some x) r s = .ok x r s := rfl
@[simp] theorem lift_none {a : Type} (r : Rho) (s : Sto) : lift (none : Option a) r s = .err := rfl
/-- a name is read: a list that the slot alone held is a value from now on -/
@[simp] def rdVar (i : Nat) (r : Rho) (s : Sto) : Rs Rv := match r[i]? with
  | some (some (.val v)) => .ok (.val v) r s
  | some (some (.own xs)) => .ok (.val (.lst xs)) (r.set i (some (.val (.lst xs)))) s
  | some (some (.dic kvs)) => .ok (.val (.dct kvs)) (r.set i (some (.val (.dct kvs)))) s
  | _ => .err
/-- a name is looked at -/
@[simp] def peek (i : Nat) (r : Rho) : Option Val := match r[i]? with
  | some (some (.val v)) => some v
  | some (some (.own xs)) => some (.lst xs)
  | some (some (.dic kvs)) => some (.dct kvs)
  | _ => none
/-- a slot that holds a list which may be changed -/
@[simp] def listy (i : Nat) (r : Rho) : Bool := match r[i]? with
  | some (some (.own _)) => true
  | some (some (.val (.loc _))) => true
  | _ => false
@[simp] def dicy (i : Nat) (r : Rho) : Bool := match r[i]? with
  | some (some (.dic _)) => true
  | _ => false
@[simp] def frz (x : Rs Rv) : Rs Val := x.bind fun v r s => .ok v.v r s
/-- targets -/
@[simp] def bindT (tg : List Nat) (x : Val) (r : Rho) : Option Rho := match tg with
  | [i] => some (r.set i (some (.val x)))
  | is => match x with
    | .tup xs => if xs.length = is.length then some ((is.zip xs).foldl (fun r p => r.set p.1 (some (.val p.2))) r) else none
    | _ => none
/-- targets within a tuple of targets -/
@[simp] def bindN : List (List Nat) → List Val → Rho → Option Rho
  | [], [], r => some r
  | tg :: tgs, x :: xs, r => match bindT tg x r with
    | some r => bindN tgs xs r
    | none => none
  | _, _, _ => none
/-- the value of a list in the store, or the value itself -/
@[simp] def deref (x : Val) (s : Sto) : Option Val := match x with
  | .loc i => (s[i]?).map .lst
  | x => some x
@[simp] def wipeR (r : Rho) : List Nat → Rho
  | [] => r
  | i :: is => (wipeR r is).set i none
def lcLoop (f : Val → Rho → Sto → Rs (Option Val)) : List Val → List Val → Rho → Sto → Rs (List Val)
  | [], acc, r, s => .ok acc r s
  | x :: xs, acc, r, s => (f x r s).bind fun o r s => match o with
    | some y => if acc.length < sizeLine then lcLoop f xs (acc ++ [y]) r s else .err
    | none => lcLoop f xs acc r s
@[simp] def noExc {a : Type} (x : Rs a) : Rs a := match x with
  | .exc _ _ _ => .err
  | x => x
section
variable (F : FT)
mutual
@[simp] def evE : CE → Rho → Sto → Rs Rv
  | .var i, r, s => rdVar i r s
  | .cst v, r, s => .ok (.val v) r s
  | .bin op a b, r, s => (frz (evE a r s)).bind fun x r s => (frz (evE b r s)).bind fun y r s => lift (binop op x y) r s
  | .neg a, r, s => (frz (evE a r s)).bind fun x r s => match x with
    | .int i => .ok (.val (.int (-i))) r s
    | _ => .err
  | .cmp op a b, r, s => (frz (evE a r s)).bind fun x r s => (frz (evE b r s)).bind fun y r s => lift ((cmpop op x y).map fun t => .val (.bl t)) r s
  | .inV ng a i, r, s => if (peek i r).isSome then (frz (evE a r s)).bind fun x r s => match (peek i r).bind (deref · s) with
    | some w => lift ((isin x w).map fun t => .val (.bl (if ng then !t else t))) r s
    | none => .err
    else .err
  | .inF ng a fs, r, s => (frz (evE a r s)).bind fun x r s => match x with
    | .fn f => .ok (.val (.bl (if ng then !(fs.contains f) else fs.contains f))) r s
    | _ => .err
  | .chn o1 o2 a b c, r, s => (frz (evE a r s)).bind fun x r s => (frz (evE b r s)).bind fun y r s => match cmpop o1 x y with
    | some true => (frz (evE c r s)).bind fun z r s => lift ((cmpop o2 y z).map fun t => .val (.bl t)) r s
    | some false => .ok (.val (.bl false)) r s
    | none => .err
  | .and a b, r, s => (evE a r s).bind fun x r s => match x with
    | .val (.bl true) => evE b r s
    | .val (.bl false) => .ok (.val (.bl false)) r s
    | _ => .err
  | .or a b, r, s => (evE a r s).bind fun x r s => match x with
    | .val (.bl true) => .ok (.val (.bl true)) r s
    | .val (.bl false) => evE b r s
    | _ => .err
  | .not a, r, s => (evE a r s).bind fun x r s => match x with
    | .val (.bl t) => .ok (.val (.bl (!t))) r s
    | _ => .err
  | .ite c a b, r, s => (evE c r s).bind fun x r s => match x with
    | .val (.bl true) => evE a r s
    | .val (.bl false) => evE b r s
    | _ => .err
  | .tup es, r, s => (evA es r s).bind fun xs r s => if xs.length ≤ sizeLine then .ok (.val (.tup xs)) r s else .err
  | .lst es, r, s => (evA es r s).bind fun xs r s => if xs.length ≤ sizeLine then .ok (.fr xs) r s else .err
  | .lstL es, r, s => (evA es r s).bind fun xs r s => if xs.length ≤ sizeLine then .ok (.val (.loc s.length)) r (s ++ [xs]) else .err
  | .dct kvs, r, s => .ok (.fd kvs) r s
  | .call f es, r, s => (evA es r s).bind fun xs r s => match F f xs s with
    | .ok v s => .ok v r s
    | .exc e s => .exc e r s
    | .err => .err
  | .callv e es, r, s => (frz (evE e r s)).bind fun g r s => match g with
    | .fn f => (evA es r s).bind fun xs r s => match F f xs s with
      | .ok v s => .ok v r s
      | .exc e s => .exc e r s
      | .err => .err
    | _ => .err
  | .bltV f i, r, s => match (peek i r).bind (deref · s) with
    | some x => lift (bltop f [x]) r s
    | none => .err
  | .blt f es, r, s => (evA es r s).bind fun xs r s => lift (bltop f xs) r s
  | .isiV i t, r, s => match (peek i r).bind (deref · s) with
    | some x => lift ((isiv x t).map fun b => .val (.bl b)) r s
    | none => .err
  | .isi a t, r, s => (frz (evE a r s)).bind fun x r s => lift ((isiv x t).map fun b => .val (.bl b)) r s
  | .idxV i b, r, s => if (peek i r).isSome then (frz (evE b r s)).bind fun y r s => match (peek i r).bind (deref · s) with
    | some x => lift ((idxop x y).map .val) r s
    | none => .err
    else .err
  | .idx a b, r, s => (frz (evE a r s)).bind fun x r s => (frz (evE b r s)).bind fun y r s => lift ((idxop x y).map .val) r s
  | .slc a lo hi, r, s => (frz (evE a r s)).bind fun x r s => (evO lo r s).bind fun l r s => (evO hi r s).bind fun u r s => lift (slcop x l u) r s
  | .rev a, r, s => (frz (evE a r s)).bind fun x r s => lift (revop x) r s
  | .upp a, r, s => (frz (evE a r s)).bind fun x r s => match x with
    | .str z => if z.length ≤ 5592405 then .ok (.val (.str (Txt.upper z))) r s else .err
    | _ => .err
  | .app i e, r, s => if listy i r then (frz (evE e r s)).bind fun x r s => match r[i]? with
    | some (some (.own xs)) => if xs.length < sizeLine then .ok (.val .non) (r.set i (some (.own (xs ++ [x])))) s else .err
    | some (some (.val (.loc j))) => match s[j]? with
      | some xs => if xs.length < sizeLine then .ok (.val .non) r (s.set j (xs ++ [x])) else .err
      | none => .err
    | _ => .err
    else .err
  | .popAt i e, r, s => if listy i r then (frz (evE e r s)).bind fun x r s => match r[i]?, x with
    | some (some (.own xs)), .int k => if 0 ≤ k ∧ k < 2 ^ 63 then match xs[k.toNat]? with
        | some y => .ok (.val y) (r.set i (some (.own (xs.eraseIdx k.toNat)))) s
        | none => .err
      else .err
    | _, _ => .err
    else .err
  | .pop i, r, s => match r[i]? with
    | some (some (.own xs)) => match xs[xs.length - 1]? with
      | some y => .ok (.val y) (r.set i (some (.own xs.dropLast))) s
      | none => .err
    | _ => .err
  | .ins i k e, r, s => if listy i r then (frz (evE k r s)).bind fun y r s => (frz (evE e r s)).bind fun x r s => match r[i]?, y with
    | some (some (.own xs)), .int n => if 0 ≤ n ∧ n < 4611686018427387904 ∧ xs.length < sizeLine then .ok (.val .non) (r.set i (some (.own (xs.take (min n.toNat xs.length) ++ x :: xs.drop (min n.toNat xs.length))))) s else .err
    | _, _ => .err
    else .err
  | .rmv i e, r, s => if listy i r then (frz (evE e r s)).bind fun x r s => match r[i]? with
    | some (some (.own xs)) => match elEqs x xs with
      | some bs => match bs.findIdx? id with
        | some j => .ok (.val .non) (r.set i (some (.own (xs.eraseIdx j)))) s
        | none => .err
      | none => .err
    | _ => .err
    else .err
  | .popD i e, r, s => if dicy i r then (frz (evE e r s)).bind fun x r s => match r[i]?, x with
    | some (some (.dic kvs)), .int n => match valK kvs (.inl n) with
      | some v => .ok (.val v) (r.set i (some (.dic (dropV kvs (.inl n))))) s
      | none => .err
    | _, _ => .err
    else .err
  | .dctE k v, r, s => (frz (evE k r s)).bind fun x r s => (frz (evE v r s)).bind fun y r s => match x with
    | .int i => .ok (.fd [(.inl i, y)]) r s
    | _ => .err
  | .dctM ks es, r, s => (evA es r s).bind fun xs r s => .ok (.fd ((ks.map Sum.inl).zip xs)) r s
  | .lenSet a, r, s => (frz (evE a r s)).bind fun x r s => match intsOf x with
    | some ns => if ns.length ≤ 1000 then .ok (.val (.int (dedI ns).length)) r s else .err
    | none => .err
  | .srtSet a, r, s => (frz (evE a r s)).bind fun x r s => match x with
    | .tup xs => match ints? xs with
      | some ns => if ns.length ≤ 60 then .ok (.fr (((dedI ns).mergeSort fun a b => decide (a ≤ b)).map .int)) r s else .err
      | none => .err
    | _ => .err
  | .mth m a es, r, s => (frz (evE a r s)).bind fun x r s => if (items x).isSome then (evA es r s).bind fun xs r s => lift ((mthop m x xs).map .val) r s else .err
  | .mthV m i es, r, s => if listy i r then (evA es r s).bind fun vs r s => match r[i]? with
    | some (some (.own xs)) => lift ((mthop m (.lst xs) vs).map .val) r s
    | _ => .err
    else .err
  | .rng tupl lo hi, r, s => (evO lo r s).bind fun l r s => (evO hi r s).bind fun u r s => match u with
    | some j => if rngOk (l.getD 0) j && decide ((j - l.getD 0).toNat ≤ 16777216) then .ok (if tupl then .val (.tup ((rngI (l.getD 0) j).map .int)) else .fr ((rngI (l.getD 0) j).map .int)) r s else .err
    | none => .err
  | .lc it tg cond elt, r, s => (evI it r s).bind fun xs r s =>
      (noExc (lcLoop (fun x r s => match bindT tg x r with
        | some r => (evC cond r s).bind fun t r s => if t then (frz (evE elt r s)).bind fun y r s => .ok (some y) (wipeR r tg) s else .ok none (wipeR r tg) s
        | none => .err) xs [] (wipeR r tg) s)).bind fun ys r s => .ok (.fr ys) r s
  | .nev, _, _ => .err
@[simp] def evA : CEs → Rho → Sto → Rs (List Val)
  | .nil, r, s => .ok [] r s
  | .cons e es, r, s => (frz (evE e r s)).bind fun x r s => (evA es r s).bind fun xs r s => .ok (x :: xs) r s
@[simp] def evO : CO → Rho → Sto → Rs (Option Int)
  | .no, r, s => .ok none r s
  | .so e, r, s => (frz (evE e r s)).bind fun x r s => match x with
    | .int i => .ok (some i) r s
    | _ => .err
/-- a condition, True where there is none -/
@[simp] def evC : CO → Rho → Sto → Rs Bool
  | .no, r, s => .ok true r s
  | .so e, r, s => (evE e r s).bind fun x r s => match x with
    | .val (.bl b) => .ok b r s
    | _ => .err
@[simp] def evI : CI → Rho → Sto → Rs (List Val)
  | .seq e, r, s => (frz (evE e r s)).bind fun x r s => lift (items x) r s
  | .rng lo hi, r, s => (evO lo r s).bind fun l r s => (frz (evE hi r s)).bind fun x r s => match x with
    | .int j => if rngOk (l.getD 0) j then .ok ((rngI (l.getD 0) j).map .int) r s else .err
    | _ => .err
  | .enum e, r, s => (frz (evE e r s)).bind fun x r s => match x with
    | .lst xs => .ok (numd xs) r s
    | .tup xs => .ok (numd xs) r s
    | _ => .err
  | .zip a b, r, s => (frz (evE a r s)).bind fun x r s => (frz (evE b r s)).bind fun y r s => match x, y with
    | .lst xs, .lst ys => .ok ((xs.zip ys).map fun p => .tup [p.1, p.2]) r s
    | .tup xs, .tup ys => .ok ((xs.zip ys).map fun p => .tup [p.1, p.2]) r s
    | _, _ => .err
end

/-- how a statement ends -/
inductive Fl where
  | next | brk | cnt | ret (v : Rv)
@[simp] def forLoop (f : Val → Rho → Sto → Rs Fl) : List Val → Rho → Sto → Rs Fl
  | [], r, s => .ok .next r s
  | x :: xs, r, s => (f x r s).bind fun fl r s => match fl with
    | .next => forLoop f xs r s
    | .cnt => forLoop f xs r s
    | .brk => .ok .next r s
    | .ret v => .ok (.ret v) r s
def whLoop (c : Rho → Sto → Rs Bool) (f : Rho → Sto → Rs Fl) : Nat → Rho → Sto → Rs Fl
  | 0, _, _ => .err
  | n + 1, r, s => (c r s).bind fun t r s => if t then (f r s).bind fun fl r s => match fl with
      | .next => whLoop c f n r s
      | .cnt => whLoop c f n r s
      | .brk => .ok .next r s
      | .ret v => .ok (.ret v) r s
    else .ok .next r s
/-- a name is stored -/
@[simp] def stV (i : Nat) (v : Rv) (r : Rho) : Rho := match v with
  | .val v => r.set i (some (.val v))
  | .fr xs => r.set i (some (.own xs))
  | .fd kvs => r.set i (some (.dic kvs))
/-- several values side by side: what is new stays so -/
@[simp] def evP : CEs → Rho → Sto → Rs (List Rv)
  | .nil, r, s => .ok [] r s
  | .cons e es, r, s => (evE F e r s).bind fun x r s => (evP es r s).bind fun xs r s => .ok (x :: xs) r s
/-- a place of a list takes a value -/
@[simp] def putAt (i : Nat) (y v : Val) (r : Rho) (s : Sto) : Rs Fl := match r[i]?, y with
  | some (some (.own xs)), .int k => match ixN xs.length k with
    | some j => .ok .next (r.set i (some (.own (xs.set j v)))) s
    | none => .err
  | some (some (.val (.loc l))), .int k => match s[l]? with
    | some xs => match ixN xs.length k with
      | some j => .ok .next r (s.set l (xs.set j v))
      | none => .err
    | none => .err
  | _, _ => .err
/-- targets, one after another: names, places of lists -/
@[simp] def stG : List (Nat × Option CE) → List Rv → Rho → Sto → Rs Fl
  | [], [], r, s => .ok .next r s
  | (i, none) :: tgs, v :: vs, r, s => stG tgs vs (stV i v r) s
  | (i, some k) :: tgs, .val x :: vs, r, s => if listy i r then (frz (evE F k r s)).bind fun y r s => (putAt i y x r s).bind fun _ r s => stG tgs vs r s else .err
  | _, _, _, _ => .err
mutual
@[simp] def exS : CS → Rho → Sto → Rs Fl
  | .asg i e, r, s => (evE F e r s).bind fun v r s => .ok .next (stV i v r) s
  | .asgT is e, r, s => (frz (evE F e r s)).bind fun x r s => match x with
    | .tup xs => if xs.length = is.length then .ok .next ((is.zip xs).foldl (fun r p => r.set p.1 (some (.val p.2))) r) s else .err
    | _ => .err
  | .asgN tgs e, r, s => (frz (evE F e r s)).bind fun x r s => match x with
    | .tup xs => match bindN tgs xs r with
      | some r => .ok .next r s
      | none => .err
    | _ => .err
  | .par is es, r, s => (evP F es r s).bind fun vs r s => if vs.length = is.length then .ok .next ((is.zip vs).foldl (fun r p => stV p.1 p.2 r) r) s else .err
  | .parG tgs es, r, s => (evP F es r s).bind fun vs r s => if vs.length = tgs.length then stG F tgs vs r s else .err
  | .set i k e, r, s => (frz (evE F e r s)).bind fun v r s => if listy i r then (frz (evE F k r s)).bind fun y r s => match r[i]?, y with
    | some (some (.own xs)), .int k => match ixN xs.length k with
      | some j => .ok .next (r.set i (some (.own (xs.set j v)))) s
      | none => .err
    | some (some (.val (.loc l))), .int k => match s[l]? with
      | some xs => match ixN xs.length k with
        | some j => .ok .next r (s.set l (xs.set j v))
        | none => .err
      | none => .err
    | _, _ => .err
    else .err
  | .setD i k e, r, s => (frz (evE F e r s)).bind fun v r s => if dicy i r then (frz (evE F k r s)).bind fun y r s => match r[i]?, y with
    | some (some (.dic kvs)), .int n => if kvs.length < sizeLine then .ok .next (r.set i (some (.dic (putV kvs (.inl n) v)))) s else .err
    | _, _ => .err
    else .err
  | .exp e, r, s => (evE F e r s).bind fun _ r s => .ok .next r s
  | .retV i, r, s => match r[i]? with
    | some (some (.val v)) => .ok (.ret (.val v)) r s
    | some (some (.own xs)) => .ok (.ret (.fr xs)) (r.set i none) s
    | some (some (.dic kvs)) => .ok (.ret (.fd kvs)) (r.set i none) s
    | _ => .err
  | .ret e, r, s => (evE F e r s).bind fun v r s => .ok (.ret v) r s
  | .retN, r, s => .ok (.ret (.val .non)) r s
  | .ifs c a b, r, s => (evC F (.so c) r s).bind fun t r s => if t then exB a r s else exB b r s
  | .for_ tg it b, r, s => (evI F it r s).bind fun xs r s => forLoop (fun x r s => match bindT tg x r with
      | some r => exB b r s
      | none => .err) xs r s
  | .while_ c b, r, s => whLoop (fun r s => evC F (.so c) r s) (fun r s => exB b r s) 1000000 r s
  | .raise x, r, s => .exc { cls := x } r s
  | .try_ b, r, s => noExc (exB b r s)
  | .aug i op e, r, s => match r[i]? with
    | some (some (.val x)) => (frz (evE F e r s)).bind fun y r s => (lift (binop op x y) r s).bind fun v r s => .ok .next (stV i v r) s
    | _ => .err
  | .pass, r, s => .ok .next r s
  | .brk, r, s => .ok .brk r s
  | .cnt, r, s => .ok .cnt r s
  | .nev, _, _ => .err
@[simp] def exB : CSs → Rho → Sto → Rs Fl
  | .nil, r, s => .ok .next r s
  | .cons st rest, r, s => (exS st r s).bind fun fl r s => match fl with
    | .next => exB rest r s
    | fl => .ok fl r s
end
end
/-- a def is run -/
def runD (F : FT) (d : Def) (vs : List Val) (s : Sto) : Fr :=
  if vs.length = d.ps then
    match exB F d.body (vs.map (fun v => some (.val v)) ++ List.replicate (d.n - d.ps) none) s with
    | .ok (.ret v) _ s => .ok v s
    | .ok .next _ s => .ok (.val .non) s
    | .ok _ _ _ => .err
    | .exc e _ s => .exc e s
    | .err => .err
  else .err
def callN (T : List Def) : Nat → FT
  | 0, _, _, _ => .err
  | n + 1, f, vs, s => match T[f]? with
    | some d => runD (callN T n) d vs s
    | none => .err
end Gz
/-! Plain values and the heap: what stands for what, what stays. -/
namespace Gz
open PySem PySem.Spec PyProof.Rows L2

/-- what is fixed: the written part, the module's names, the defs' names and the errors' by number -/
structure Cn where
  K : PySem.W.Frag
  mg : Str → Option Value
  fns : List Str
  exs : List Str
/-- the ghost: the lists of the store by number, what is never changed any more -/
structure Gh where
  L : List Addr
  F : Hp
def Gh.le (W U : Gh) : Prop := (∀ (i : Nat) (a : Addr), W.L[i]? = some a → U.L[i]? = some a) ∧ ∀ a o, W.F a = some o → U.F a = some o
theorem Gh.le.refl (W : Gh) : W.le W := ⟨fun _ _ h => h, fun _ _ h => h⟩
theorem Gh.le.trans {W U T : Gh} (a : W.le U) (b : U.le T) : W.le T := ⟨fun i x h => b.1 i x (a.1 i x h), fun x o h => b.2 x o (a.2 x o h)⟩

def tupO (us : List Value) : Obj := { cls := .type "tuple", data := .seq us.toArray }
def TupAt (K : PySem.W.Frag) (F : Hp) (a : Addr) (vs : List V) : Prop :=
  (∃ us, F a = some (.frz (tupO us) (.tup vs))) ∨
    ∃ (o : Obj) (its : Array Value) (n : Nat), K.lookup a = some o ∧ o.cls = .type "tuple" ∧ o.dict = none ∧ o.data = .seq its n ∧ its.size ≤ sizeLine ∧ Vals vs its.toList
theorem TupAt.sq {K : PySem.W.Frag} {F H : Hp} {a : Addr} {vs : List V} (t : TupAt K F a vs) (s : ∀ a o, F a = some o → H a = some o) : SqT K H a vs := by
  rcases t with ⟨us, h⟩ | ⟨o, its, n, h1, h2, _, h4, h5, h6⟩
  · exact .inl (.inr ⟨_, s _ _ h⟩)
  · exact .inr ⟨o, its, n, h1, h2, h4, h5, h6⟩
theorem TupAt.mono {K : PySem.W.Frag} {F H : Hp} {a : Addr} {vs : List V} (t : TupAt K F a vs) (s : ∀ a o, F a = some o → H a = some o) : TupAt K H a vs := by
  rcases t with ⟨us, h⟩ | h
  · exact .inl ⟨us, s _ _ h⟩
  · exact .inr h
theorem sqL_mono {K : PySem.W.Frag} {F H : Hp} {a : Addr} {vs : List V} (t : SqL K F a vs) (s : ∀ a o, F a = some o → H a = some o) : SqL K H a vs := by
  rcases t with (h | ⟨o, h⟩) | h
  · exact .inl (.inl (s _ _ h))
  · exact .inl (.inr ⟨o, s _ _ h⟩)
  · exact .inr h

mutual
/-- x stands for v -/
def Rep (C : Cn) (W : Gh) : Val → V → Prop
  | .non, x => x = .non
  | .bl b, x => x = .bl b
  | .int i, x => x = .int i
  | .str z, x => x = .str z
  | .tup xs, x => ∃ a vs, x = .ref a ∧ TupAt C.K W.F a vs ∧ Reps C W xs vs
  | .lst xs, x => ∃ a vs, x = .ref a ∧ W.F a = some (.lst vs) ∧ Reps C W xs vs
  | .fz ns, x => ∃ a, x = .ref a ∧ SqL C.K W.F a (ns.map V.int)
  | .dct kvs, x => ∃ a ks, x = .ref a ∧ W.F a = some (.dK ks) ∧ RepK C W kvs ks
  | .loc i, x => ∃ a, x = .ref a ∧ W.L[i]? = some a
  | .fn f, x => ∃ a n, x = .ref a ∧ C.fns[f]? = some n ∧ C.mg n = some (.ref a)
def Reps (C : Cn) (W : Gh) : List Val → List V → Prop
  | [], vs => vs = []
  | x :: xs, vs => ∃ v r, vs = v :: r ∧ Rep C W x v ∧ Reps C W xs r
def RepK (C : Cn) (W : Gh) : List (Key × Val) → List (Key × V) → Prop
  | [], vs => vs = []
  | (k, x) :: xs, vs => ∃ v r, vs = (k, v) :: r ∧ Rep C W x v ∧ RepK C W xs r
end
section
variable {C : Cn} {W U : Gh}
mutual
theorem Rep.mono (h : W.le U) : ∀ {v : Val} {x : V}, Rep C W v x → Rep C U v x
  | .non, _, q => by rw [Rep] at q ⊢; exact q
  | .bl _, _, q => by rw [Rep] at q ⊢; exact q
  | .int _, _, q => by rw [Rep] at q ⊢; exact q
  | .str _, _, q => by rw [Rep] at q ⊢; exact q
  | .tup xs, _, q => by
    rw [Rep] at q ⊢
    obtain ⟨a, vs, e, t, r⟩ := q
    exact ⟨a, vs, e, t.mono h.2, Reps.mono h r⟩
  | .lst xs, _, q => by
    rw [Rep] at q ⊢
    obtain ⟨a, vs, e, t, r⟩ := q
    exact ⟨a, vs, e, h.2 _ _ t, Reps.mono h r⟩
  | .fz ns, _, q => by
    rw [Rep] at q ⊢
    obtain ⟨a, e, t⟩ := q
    exact ⟨a, e, sqL_mono t h.2⟩
  | .dct kvs, _, q => by
    rw [Rep] at q ⊢
    obtain ⟨a, vs, e, t, r⟩ := q
    exact ⟨a, vs, e, h.2 _ _ t, RepK.mono h r⟩
  | .loc i, _, q => by
    rw [Rep] at q ⊢
    obtain ⟨a, e, t⟩ := q
    exact ⟨a, e, h.1 _ _ t⟩
  | .fn f, _, q => by rw [Rep] at q ⊢; exact q
theorem Reps.mono (h : W.le U) : ∀ {v : List Val} {x : List V}, Reps C W v x → Reps C U v x
  | [], _, q => by rw [Reps] at q ⊢; exact q
  | y :: ys, _, q => by
    rw [Reps] at q ⊢
    obtain ⟨v, r, e, a, b⟩ := q
    exact ⟨v, r, e, Rep.mono h a, Reps.mono h b⟩
theorem RepK.mono (h : W.le U) : ∀ {v : List (Key × Val)} {x : List (Key × V)}, RepK C W v x → RepK C U v x
  | [], _, q => by rw [RepK] at q ⊢; exact q
  | (k, y) :: ys, _, q => by
    rw [RepK] at q ⊢
    obtain ⟨v, r, e, a, b⟩ := q
    exact ⟨v, r, e, Rep.mono h a, RepK.mono h b⟩
end
theorem reps_nil {vs : List V} : Reps C W [] vs ↔ vs = [] := by rw [Reps]
theorem reps_cons {x : Val} {xs : List Val} {vs : List V} : Reps C W (x :: xs) vs ↔ ∃ v r, vs = v :: r ∧ Rep C W x v ∧ Reps C W xs r := by rw [Reps]
theorem Reps.cons {x : Val} {xs : List Val} {v : V} {vs : List V} (a : Rep C W x v) (b : Reps C W xs vs) : Reps C W (x :: xs) (v :: vs) := reps_cons.mpr ⟨v, vs, rfl, a, b⟩
theorem Reps.nil : Reps C W [] [] := reps_nil.mpr rfl
theorem Reps.length : ∀ {xs : List Val} {vs : List V}, Reps C W xs vs → xs.length = vs.length
  | [], _, h => by rw [reps_nil.mp h]; rfl
  | x :: xs, _, h => by
    obtain ⟨v, r, rfl, _, b⟩ := reps_cons.mp h
    rw [List.length_cons, List.length_cons, Reps.length b]
theorem Reps.get : ∀ {xs : List Val} {vs : List V} {i : Nat} {x : Val}, Reps C W xs vs → xs[i]? = some x → ∃ v, vs[i]? = some v ∧ Rep C W x v
  | [], _, _, _, _, e => by simp at e
  | y :: ys, _, 0, _, h, e => by
    obtain ⟨v, r, rfl, a, b⟩ := reps_cons.mp h
    rw [List.getElem?_cons_zero] at e; cases e
    exact ⟨v, rfl, a⟩
  | y :: ys, _, i + 1, _, h, e => by
    obtain ⟨v, r, rfl, a, b⟩ := reps_cons.mp h
    rw [List.getElem?_cons_succ] at e
    obtain ⟨z, p, q⟩ := Reps.get b e
    exact ⟨z, by rw [List.getElem?_cons_succ]; exact p, q⟩
theorem Reps.append : ∀ {xs ys : List Val} {vs ws : List V}, Reps C W xs vs → Reps C W ys ws → Reps C W (xs ++ ys) (vs ++ ws)
  | [], _, _, _, h, g => by rw [reps_nil.mp h]; exact g
  | x :: xs, _, _, _, h, g => by
    obtain ⟨v, r, rfl, a, b⟩ := reps_cons.mp h
    exact Reps.cons a (Reps.append b g)
theorem Reps.take : ∀ {xs : List Val} {vs : List V} (n : Nat), Reps C W xs vs → Reps C W (xs.take n) (vs.take n)
  | _, _, 0, _ => by rw [List.take_zero, List.take_zero]; exact .nil
  | [], _, n + 1, h => by rw [reps_nil.mp h]; exact .nil
  | x :: xs, _, n + 1, h => by
    obtain ⟨v, r, rfl, a, b⟩ := reps_cons.mp h
    exact Reps.cons a (Reps.take n b)
theorem Reps.drop : ∀ {xs : List Val} {vs : List V} (n : Nat), Reps C W xs vs → Reps C W (xs.drop n) (vs.drop n)
  | _, _, 0, h => h
  | [], _, n + 1, h => by rw [reps_nil.mp h]; exact .nil
  | x :: xs, _, n + 1, h => by
    obtain ⟨v, r, rfl, a, b⟩ := reps_cons.mp h
    exact Reps.drop n b
theorem Reps.reverse : ∀ {xs : List Val} {vs : List V}, Reps C W xs vs → Reps C W xs.reverse vs.reverse
  | [], _, h => by rw [reps_nil.mp h]; exact .nil
  | x :: xs, _, h => by
    obtain ⟨v, r, rfl, a, b⟩ := reps_cons.mp h
    rw [List.reverse_cons, List.reverse_cons]
    exact (Reps.reverse b).append (.cons a .nil)
theorem Reps.set : ∀ {xs : List Val} {vs : List V} {x : Val} {v : V} (i : Nat), Reps C W xs vs → Rep C W x v → Reps C W (xs.set i x) (vs.set i v)
  | [], _, _, _, _, h, _ => by rw [reps_nil.mp h]; exact .nil
  | y :: ys, _, _, _, 0, h, g => by
    obtain ⟨v, r, rfl, a, b⟩ := reps_cons.mp h
    exact Reps.cons g b
  | y :: ys, _, _, _, i + 1, h, g => by
    obtain ⟨v, r, rfl, a, b⟩ := reps_cons.mp h
    exact Reps.cons a (Reps.set i b g)
theorem Reps.erase : ∀ {xs : List Val} {vs : List V} (i : Nat), Reps C W xs vs → Reps C W (xs.eraseIdx i) (vs.eraseIdx i)
  | [], _, _, h => by rw [reps_nil.mp h]; exact .nil
  | y :: ys, _, 0, h => by
    obtain ⟨v, r, rfl, a, b⟩ := reps_cons.mp h
    exact b
  | y :: ys, _, i + 1, h => by
    obtain ⟨v, r, rfl, a, b⟩ := reps_cons.mp h
    exact Reps.cons a (Reps.erase i b)
theorem Reps.dropLast : ∀ {xs : List Val} {vs : List V}, Reps C W xs vs → Reps C W xs.dropLast vs.dropLast := fun {xs vs} h => by
  rw [List.dropLast_eq_take, List.dropLast_eq_take, h.length]
  exact h.take _
theorem Reps.replicate (k : Nat) {xs : List Val} {vs : List V} (h : Reps C W xs vs) : Reps C W (List.replicate k xs).flatten (List.replicate k vs).flatten := by
  induction k with
  | zero => exact .nil
  | succ k ih =>
    rw [List.replicate_succ, List.replicate_succ, List.flatten_cons, List.flatten_cons]
    exact h.append ih
theorem reps_ints (ns : List Int) : Reps C W (ns.map .int) (ns.map V.int) := by
  induction ns with
  | nil => exact .nil
  | cons n r ih => exact .cons (by rw [Rep]) ih
theorem ints_of : ∀ {xs : List Val} {vs : List V} {ns : List Int}, Reps C W xs vs → ints? xs = some ns → vs = ns.map V.int
  | [], _, _, h, e => by cases e; exact reps_nil.mp h
  | .int i :: r, _, ns, h, e => by
    obtain ⟨v, q, rfl, a, b⟩ := reps_cons.mp h
    rw [ints?] at e
    cases z : ints? r with
    | none => rw [z] at e; cases e
    | some ms =>
      rw [z] at e; cases e
      rw [Rep] at a
      rw [a, ints_of b z]; rfl
  | .non :: _, _, _, _, e => by cases e
  | .bl _ :: _, _, _, _, e => by cases e
  | .str _ :: _, _, _, _, e => by cases e
  | .tup _ :: _, _, _, _, e => by cases e
  | .lst _ :: _, _, _, _, e => by cases e
  | .fz _ :: _, _, _, _, e => by cases e
  | .dct _ :: _, _, _, _, e => by cases e
  | .loc _ :: _, _, _, _, e => by cases e
  | .fn _ :: _, _, _, _, e => by cases e
theorem bools_of : ∀ {xs : List Val} {vs : List V} {ns : List Bool}, Reps C W xs vs → bools? xs = some ns → vs = ns.map V.bl
  | [], _, _, h, e => by cases e; exact reps_nil.mp h
  | .bl i :: r, _, ns, h, e => by
    obtain ⟨v, q, rfl, a, b⟩ := reps_cons.mp h
    rw [bools?] at e
    cases z : bools? r with
    | none => rw [z] at e; cases e
    | some ms =>
      rw [z] at e; cases e
      rw [Rep] at a
      rw [a, bools_of b z]; rfl
  | .non :: _, _, _, _, e => by cases e
  | .int _ :: _, _, _, _, e => by cases e
  | .str _ :: _, _, _, _, e => by cases e
  | .tup _ :: _, _, _, _, e => by cases e
  | .lst _ :: _, _, _, _, e => by cases e
  | .fz _ :: _, _, _, _, e => by cases e
  | .dct _ :: _, _, _, _, e => by cases e
  | .loc _ :: _, _, _, _, e => by cases e
  | .fn _ :: _, _, _, _, e => by cases e
end

/-! ### the state -/
abbrev Hid := List (Addr × Slot)
/-- what a slot holds, and the object -/
def SltR (C : Cn) (W : Gh) : Slot → HO → Prop
  | .val _, _ => False
  | .own xs, o => ∃ vs, o = .lst vs ∧ Reps C W xs vs
  | .dic kvs, o => ∃ ks, o = .dK ks ∧ RepK C W kvs ks
theorem SltR.mono {C : Cn} {W U : Gh} (l : W.le U) {sl : Slot} {o : HO} (h : SltR C W sl o) : SltR C U sl o := by
  cases sl with
  | val => exact h.elim
  | own xs => obtain ⟨vs, e, r⟩ := h; exact ⟨vs, e, r.mono l⟩
  | dic kvs => obtain ⟨ks, e, r⟩ := h; exact ⟨ks, e, r.mono l⟩
structure Okk (C : Cn) (H0 : Hp) (W0 : Gh) (T : Hid) (W : Gh) (r : Rho) (s : Sto) (sg : L2.St) (H : Hp) : Prop where
  sub : ∀ a o, W.F a = some o → H a = some o
  len : s.length = W.L.length
  sto : ∀ (i : Nat) (a : Addr), W.L[i]? = some a → W.F a = none ∧ ∃ xs vs, s[i]? = some xs ∧ H a = some (.lst vs) ∧ Reps C W xs vs
  nd : W.L.Nodup
  val : ∀ (i : Nat) (v : Val), r[i]? = some (some (.val v)) → ∃ x, sg[i]? = some (some x) ∧ Rep C W v x
  hold : ∀ (i : Nat) (sl : Slot), r[i]? = some (some sl) → sl.held = true → ∃ a o, sg[i]? = some (some (.ref a)) ∧ W.F a = none ∧ a ∉ W.L ∧ H0 a = none ∧ H a = some o ∧ SltR C W sl o
  apart : ∀ (i j : Nat) (sl tl : Slot) (x : V), r[i]? = some (some sl) → r[j]? = some (some tl) → sl.held = true → tl.held = true → sg[i]? = some (some x) → sg[j]? = some (some x) → i = j
  slen : r.length = sg.length
  fH : ∀ a o, H0 a = some o → a ∉ W0.L → H a = some o
  fF : ∀ a o, H0 a = some o → W0.F a = none → W.F a = none
  le : W0.le W
  fL : ∀ a ∈ W.L, a ∈ W0.L ∨ H0 a = none
  hid : ∀ p ∈ T, W.F p.1 = none ∧ p.1 ∉ W.L ∧ H0 p.1 = none ∧ (∃ o, H p.1 = some o ∧ SltR C W p.2 o) ∧ ∀ (i : Nat) (sl : Slot), r[i]? = some (some sl) → sl.held = true → sg[i]? ≠ some (some (.ref p.1))
  hnd : (T.map (·.1)).Nodup
/-- what an expression gave -/
def RvR (C : Cn) (H0 : Hp) (T : Hid) (sg : L2.St) (W : Gh) (r : Rho) (H : Hp) : Rv → V → Prop
  | .val v, x => Rep C W v x
  | .fr xs, x => ∃ a vs, x = .ref a ∧ W.F a = none ∧ a ∉ W.L ∧ H0 a = none ∧ H a = some (.lst vs) ∧ Reps C W xs vs ∧ (∀ (i : Nat) (sl : Slot), r[i]? = some (some sl) → sl.held = true → sg[i]? ≠ some (some (.ref a))) ∧ ∀ p ∈ T, p.1 ≠ a
  | .fd kvs, x => ∃ a ks, x = .ref a ∧ W.F a = none ∧ a ∉ W.L ∧ H0 a = none ∧ H a = some (.dK ks) ∧ RepK C W kvs ks ∧ (∀ (i : Nat) (sl : Slot), r[i]? = some (some sl) → sl.held = true → sg[i]? ≠ some (some (.ref a))) ∧ ∀ p ∈ T, p.1 ≠ a
def Rv.slot : Rv → Slot
  | .val v => .val v
  | .fr xs => .own xs
  | .fd kvs => .dic kvs
/-- what is new, in one word -/
def NewR (C : Cn) (H0 : Hp) (T : Hid) (sg : L2.St) (W : Gh) (r : Rho) (H : Hp) (sl : Slot) (x : V) : Prop :=
  ∃ a o, x = .ref a ∧ W.F a = none ∧ a ∉ W.L ∧ H0 a = none ∧ H a = some o ∧ SltR C W sl o ∧ (∀ (i : Nat) (sl : Slot), r[i]? = some (some sl) → sl.held = true → sg[i]? ≠ some (some (.ref a))) ∧ ∀ p ∈ T, p.1 ≠ a
theorem RvR.new {C : Cn} {H0 : Hp} {T : Hid} {sg : L2.St} {W : Gh} {r : Rho} {H : Hp} {v : Rv} {x : V} (hv : v.slot.held = true) : RvR C H0 T sg W r H v x ↔ NewR C H0 T sg W r H v.slot x := by
  cases v with
  | val => cases hv
  | fr xs => exact ⟨fun ⟨a, vs, h1, h2, h3, h4, h5, h6, h7⟩ => ⟨a, _, h1, h2, h3, h4, h5, ⟨vs, rfl, h6⟩, h7⟩, fun ⟨a, o, h1, h2, h3, h4, h5, ⟨vs, e, h6⟩, h7⟩ => ⟨a, vs, h1, h2, h3, h4, by rw [← e]; exact h5, h6, h7⟩⟩
  | fd xs => exact ⟨fun ⟨a, vs, h1, h2, h3, h4, h5, h6, h7⟩ => ⟨a, _, h1, h2, h3, h4, h5, ⟨vs, rfl, h6⟩, h7⟩, fun ⟨a, o, h1, h2, h3, h4, h5, ⟨vs, e, h6⟩, h7⟩ => ⟨a, vs, h1, h2, h3, h4, by rw [← e]; exact h5, h6, h7⟩⟩
def Gh.add (W : Gh) (a : Addr) (o : HO) : Gh := ⟨W.L, upd W.F a o⟩
section
variable {C : Cn} {H0 H : Hp} {W0 W : Gh} {T : Hid} {r : Rho} {s : Sto} {sg : L2.St}
theorem Gh.le_add {a : Addr} {o : HO} (h : W.F a = none) : W.le (W.add a o) := ⟨fun _ _ q => q, fun b u q => by
  show upd W.F a o b = some u
  rw [upd_ne (ne_of_none q h)]; exact q⟩
theorem Okk.own (k : Okk C H0 W0 T W r s sg H) (i : Nat) (xs : List Val) (q : r[i]? = some (some (.own xs))) : ∃ a vs, sg[i]? = some (some (.ref a)) ∧ W.F a = none ∧ a ∉ W.L ∧ H0 a = none ∧ H a = some (.lst vs) ∧ Reps C W xs vs := by
  obtain ⟨a, o, h1, h2, h3, h4, h5, vs, rfl, h6⟩ := k.hold i _ q rfl
  exact ⟨a, vs, h1, h2, h3, h4, h5, h6⟩
theorem Okk.dic (k : Okk C H0 W0 T W r s sg H) (i : Nat) (xs : List (Key × Val)) (q : r[i]? = some (some (.dic xs))) : ∃ a ks, sg[i]? = some (some (.ref a)) ∧ W.F a = none ∧ a ∉ W.L ∧ H0 a = none ∧ H a = some (.dK ks) ∧ RepK C W xs ks := by
  obtain ⟨a, o, h1, h2, h3, h4, h5, vs, rfl, h6⟩ := k.hold i _ q rfl
  exact ⟨a, vs, h1, h2, h3, h4, h5, h6⟩
theorem Okk.fnone (k : Okk C H0 W0 T W r s sg H) {a : Addr} (h : H a = none) : W.F a = none := by
  cases q : W.F a with
  | none => rfl
  | some o => rw [k.sub a o q] at h; cases h
theorem Okk.lnone (k : Okk C H0 W0 T W r s sg H) {a : Addr} (h : H a = none) : a ∉ W.L := fun hm => by
  obtain ⟨i, e⟩ := List.mem_iff_getElem?.mp hm
  obtain ⟨_, xs, vs, _, e2, _⟩ := k.sto i a e
  rw [h] at e2; cases e2
theorem Okk.hnone (k : Okk C H0 W0 T W r s sg H) {a : Addr} (h : H a = none) : H0 a = none := by
  cases q : H0 a with
  | none => rfl
  | some o =>
    by_cases hm : a ∈ W0.L
    · obtain ⟨i, e⟩ := List.mem_iff_getElem?.mp hm
      exact absurd (List.mem_iff_getElem?.mpr ⟨i, k.le.1 i a e⟩) (k.lnone h)
    · rw [k.fH a o q hm] at h; cases h
/-- a new thing that is never changed -/
theorem Okk.new (k : Okk C H0 W0 T W r s sg H) {p : Addr} (np : H p = none) (o : HO) : Okk C H0 W0 T (W.add p o) r s sg (upd H p o) ∧ W.le (W.add p o) := by
  have nF := k.fnone np
  have hle : W.le (W.add p o) := Gh.le_add nF
  have ne : ∀ {b : Addr} {u : HO}, H b = some u → b ≠ p := fun q => ne_of_none q np
  refine ⟨⟨fun a u q => ?_, k.len, fun i a q => ?_, k.nd, fun i v q => ?_, fun i xs q hq0 => ?_, k.apart, k.slen, fun a u q hm => ?_, fun a u q z => ?_, k.le.trans hle, k.fL, fun q hq => ?_, k.hnd⟩, hle⟩
  · by_cases e : a = p
    · subst e
      have q : upd W.F a o a = some u := q
      rw [upd_same] at q ⊢; exact q
    · have q : upd W.F p o a = some u := q
      rw [upd_ne e] at q ⊢; exact k.sub a u q
  · obtain ⟨h1, xs, vs, h2, h3, h4⟩ := k.sto i a q
    refine ⟨?_, xs, vs, h2, by rw [upd_ne (ne h3)]; exact h3, h4.mono hle⟩
    show upd W.F p o a = none
    rw [upd_ne (ne h3)]; exact h1
  · obtain ⟨x, h1, h2⟩ := k.val i v q
    exact ⟨x, h1, h2.mono hle⟩
  · obtain ⟨a, vs, h1, h2, h3, h4, h5, h6⟩ := k.hold i xs q hq0
    refine ⟨a, vs, h1, ?_, h3, h4, by rw [upd_ne (ne h5)]; exact h5, h6.mono hle⟩
    show upd W.F p o a = none
    rw [upd_ne (ne h5)]; exact h2
  · rw [upd_ne (ne (k.fH a u q hm))]; exact k.fH a u q hm
  · show upd W.F p o a = none
    rw [upd_ne (fun e => by subst e; rw [k.hnone np] at q; cases q)]; exact k.fF a u q z
  · obtain ⟨h1, h2, h3, ⟨vs, h4, h5⟩, h6⟩ := k.hid q hq
    refine ⟨?_, h2, h3, ⟨vs, by rw [upd_ne (ne h4)]; exact h4, h5.mono hle⟩, h6⟩
    show upd W.F p o q.1 = none
    rw [upd_ne (ne h4)]; exact h1
/-- a new list that nobody holds -/
theorem Okk.newL (k : Okk C H0 W0 T W r s sg H) {p : Addr} (np : H p = none) (o : HO) : Okk C H0 W0 T W r s sg (upd H p o) := by
  have ne : ∀ {b : Addr} {u : HO}, H b = some u → b ≠ p := fun q => ne_of_none q np
  refine ⟨fun a u q => by rw [upd_ne (ne (k.sub a u q))]; exact k.sub a u q, k.len, fun i a q => ?_, k.nd, k.val, fun i xs q hq0 => ?_, k.apart, k.slen, fun a u q hm => by rw [upd_ne (ne (k.fH a u q hm))]; exact k.fH a u q hm, k.fF, k.le, k.fL, fun q hq => ?_, k.hnd⟩
  · obtain ⟨h1, xs, vs, h2, h3, h4⟩ := k.sto i a q
    exact ⟨h1, xs, vs, h2, by rw [upd_ne (ne h3)]; exact h3, h4⟩
  · obtain ⟨a, vs, h1, h2, h3, h4, h5, h6⟩ := k.hold i xs q hq0
    exact ⟨a, vs, h1, h2, h3, h4, by rw [upd_ne (ne h5)]; exact h5, h6⟩
  · obtain ⟨h1, h2, h3, ⟨vs, h4, h5⟩, h6⟩ := k.hid q hq
    exact ⟨h1, h2, h3, ⟨vs, by rw [upd_ne (ne h4)]; exact h4, h5⟩, h6⟩
/-- .. and it is new -/
theorem Okk.newR (k : Okk C H0 W0 T W r s sg H) {p : Addr} (np : H p = none) {xs : List Val} {vs : List V} (h : Reps C W xs vs) : RvR C H0 T sg W r (upd H p (.lst vs)) (.fr xs) (.ref p) := by
  refine ⟨p, vs, rfl, k.fnone np, k.lnone np, k.hnone np, upd_same, h, fun i ys q hq0 e => ?_, fun q hq e => ?_⟩
  · obtain ⟨a, ws, h1, _, _, _, h5, _⟩ := k.hold i ys q hq0
    rw [h1] at e; cases e
    rw [np] at h5; cases h5
  · obtain ⟨_, _, _, ⟨vs, h4, _⟩, _⟩ := k.hid q hq
    rw [e, np] at h4; cases h4
/-- .. a dict -/
theorem Okk.newRD (k : Okk C H0 W0 T W r s sg H) {p : Addr} (np : H p = none) {xs : List (Key × Val)} {vs : List (Key × V)} (h : RepK C W xs vs) : RvR C H0 T sg W r (upd H p (.dK vs)) (.fd xs) (.ref p) := by
  refine ⟨p, vs, rfl, k.fnone np, k.lnone np, k.hnone np, upd_same, h, fun i ys q hq0 e => ?_, fun q hq e => ?_⟩
  · obtain ⟨a, ws, h1, _, _, _, h5, _⟩ := k.hold i ys q hq0
    rw [h1] at e; cases e
    rw [np] at h5; cases h5
  · obtain ⟨_, _, _, ⟨vs, h4, _⟩, _⟩ := k.hid q hq
    rw [e, np] at h4; cases h4
/-- what nobody holds is never changed from now on -/
theorem Okk.freezeG (k : Okk C H0 W0 T W r s sg H) {sl : Slot} {x : V} (h : NewR C H0 T sg W r H sl x) : ∃ U a o, W.le U ∧ Okk C H0 W0 T U r s sg H ∧ x = .ref a ∧ U.F a = some o ∧ SltR C U sl o := by
  obtain ⟨a, o, rfl, h1, h2, h3, h4, h5, h6, h7⟩ := h
  have hle : W.le (W.add a o) := Gh.le_add h1
  refine ⟨W.add a o, a, o, hle, ⟨fun b u q => ?_, k.len, fun i b q => ?_, k.nd, fun i v q => ?_, fun i ys q hq0 => ?_, k.apart, k.slen, k.fH, fun b u q z => ?_, k.le.trans hle, k.fL, fun q hq => ?_, k.hnd⟩, rfl, upd_same, h5.mono hle⟩
  · by_cases e : b = a
    · subst e
      have q : upd W.F b o b = some u := q
      rw [upd_same] at q; cases q; exact h4
    · have q : upd W.F a o b = some u := q
      rw [upd_ne e] at q; exact k.sub b u q
  · obtain ⟨g1, ys, ws, g2, g3, g4⟩ := k.sto i b q
    have e : b ≠ a := fun e => h2 (e ▸ List.mem_iff_getElem?.mpr ⟨i, q⟩)
    refine ⟨?_, ys, ws, g2, g3, g4.mono hle⟩
    show upd W.F a o b = none
    rw [upd_ne e]; exact g1
  · obtain ⟨x, g1, g2⟩ := k.val i v q
    exact ⟨x, g1, g2.mono hle⟩
  · obtain ⟨b, ws, g1, g2, g3, g4, g5, g6⟩ := k.hold i ys q hq0
    have e : b ≠ a := fun e => h6 i ys q hq0 (by rw [← e]; exact g1)
    refine ⟨b, ws, g1, ?_, g3, g4, g5, g6.mono hle⟩
    show upd W.F a o b = none
    rw [upd_ne e]; exact g2
  · show upd W.F a o b = none
    rw [upd_ne (fun e => by subst e; rw [h3] at q; cases q)]; exact k.fF b u q z
  · obtain ⟨g1, g2, g3, ⟨ws, g4, g5⟩, g6⟩ := k.hid q hq
    refine ⟨?_, g2, g3, ⟨ws, g4, g5.mono hle⟩, g6⟩
    show upd W.F a o q.1 = none
    rw [upd_ne (h7 q hq)]; exact g1
/-- a list that nobody holds is a value from now on -/
theorem Okk.freeze (k : Okk C H0 W0 T W r s sg H) {xs : List Val} {x : V} (h : RvR C H0 T sg W r H (.fr xs) x) : ∃ U, W.le U ∧ Okk C H0 W0 T U r s sg H ∧ Rep C U (.lst xs) x := by
  obtain ⟨U, a, o, l, k2, rfl, f, vs, rfl, rs⟩ := k.freezeG ((RvR.new (v := .fr xs) rfl).mp h)
  exact ⟨U, l, k2, by rw [Rep]; exact ⟨a, vs, rfl, f, rs⟩⟩
theorem Okk.freezeD (k : Okk C H0 W0 T W r s sg H) {xs : List (Key × Val)} {x : V} (h : RvR C H0 T sg W r H (.fd xs) x) : ∃ U, W.le U ∧ Okk C H0 W0 T U r s sg H ∧ Rep C U (.dct xs) x := by
  obtain ⟨U, a, o, l, k2, rfl, f, vs, rfl, rs⟩ := k.freezeG ((RvR.new (v := .fd xs) rfl).mp h)
  exact ⟨U, l, k2, by rw [Rep]; exact ⟨a, vs, rfl, f, rs⟩⟩
end
end Gz
/-! Operators, by plain values. -/
namespace Gz
open PySem PySem.Spec PyProof.Rows L2

abbrev Sub (W : Gh) (H : Hp) : Prop := ∀ a o, W.F a = some o → H a = some o
/-- a value as it may be read now: its outermost list may still be held by a slot -/
def RepB (C : Cn) (W : Gh) (H : Hp) : Val → V → Prop
  | .lst xs, x => ∃ a vs, x = .ref a ∧ H a = some (.lst vs) ∧ Reps C W xs vs
  | .dct xs, x => ∃ a vs, x = .ref a ∧ H a = some (.dK vs) ∧ RepK C W xs vs
  | v, x => Rep C W v x
theorem Rep.b {C : Cn} {W : Gh} {H : Hp} (s : Sub W H) {v : Val} {x : V} (h : Rep C W v x) : RepB C W H v x := by
  cases v with
  | lst xs =>
    rw [Rep] at h
    obtain ⟨a, vs, e, f, r⟩ := h
    exact ⟨a, vs, e, s _ _ f, r⟩
  | dct xs =>
    rw [Rep] at h
    obtain ⟨a, vs, e, f, r⟩ := h
    exact ⟨a, vs, e, s _ _ f, r⟩
  | _ => exact h
/-- the outcome: nothing new, or one new thing -/
def Ext (W : Gh) (H : Hp) (U : Gh) (G : Hp) : Prop := (U = W ∧ G = H) ∨ ∃ p o, H p = none ∧ U = W.add p o ∧ G = upd H p o
def Gives (C : Cn) (W : Gh) (H : Hp) (Q : VK) : Rv → Prop
  | .val v => ∀ x U G, Ext W H U G → Rep C U v x → Q x G
  | .fr xs => ∀ p vs, H p = none → Reps C W xs vs → Q (.ref p) (upd H p (.lst vs))
  | .fd xs => ∀ p vs, H p = none → RepK C W xs vs → Q (.ref p) (upd H p (.dK vs))
section
variable {C : Cn} {W : Gh} {H : Hp} {Q : VK}
theorem Gives.same {v : Val} {x : V} (g : Gives C W H Q (.val v)) (h : Rep C W v x) : Q x H := g x W H (.inl ⟨rfl, rfl⟩) h
theorem Gives.tup {xs : List Val} {vs : List V} {us : List Value} {p : Addr} (g : Gives C W H Q (.val (.tup xs))) (hF : W.F p = none) (np : H p = none) (h : Reps C W xs vs) : Q (.ref p) (upd H p (.frz (tupO us) (.tup vs))) := by
  refine g (.ref p) _ _ (.inr ⟨p, .frz (tupO us) (.tup vs), np, rfl, rfl⟩) ?_
  rw [Rep]
  exact ⟨p, vs, rfl, .inl ⟨us, upd_same⟩, h.mono (Gh.le_add hF)⟩
theorem Sub.none (s : Sub W H) {a : Addr} (h : H a = none) : W.F a = none := by
  cases q : W.F a with
  | none => rfl
  | some o => rw [s a o q] at h; cases h
end

/-! ### tuples that are known to the object -/
section
variable {X : Cx}
/-- a new tuple has been laid -/
theorem laidT {pins : List (Addr × Obj)} {sg : L2.St} {H : Hp} {s : Shared} {h : Heap} {t : Nat} {vs : List V} {us : List Value} {Q : VK} (I : Inv X pins sg H s) (kp : ∀ b u, s.heap.get? b = some u → h.get? b = some u) (r : Vals vs us) (hz : vs.length ≤ sizeLine) (hs : s.heap.objs.size ≤ h.objs.size)
    (q : ∀ p, H p = none → Q (.ref p) (upd H p (.frz (tupO us) (.tup vs)))) : EP X pins sg Q (.ref h.objs.size) { s with heap := h.push (tupO us), toks := t } := by
  have np : H h.objs.size = none := I.hok.fresh hs
  refine ⟨.ref h.objs.size, _, I.laid (a := h.objs.size) (o := .frz (tupO us) (.tup vs)) (t' := t) (fun b u e => Heap.get?_push_of_some _ (kp b u e)) hs ?_, rfl, q _ np⟩
  exact ⟨Heap.get?_push_size _ rfl, hz, us, r, IsTup.new _ _⟩
theorem laidT0 {pins : List (Addr × Obj)} {sg : L2.St} {H : Hp} {s : Shared} {t : Nat} {vs : List V} {us : List Value} {Q : VK} (I : Inv X pins sg H s) (r : Vals vs us) (hz : vs.length ≤ sizeLine)
    (q : ∀ p, H p = none → Q (.ref p) (upd H p (.frz (tupO us) (.tup vs)))) : EP X pins sg Q (.ref s.heap.objs.size) { s with heap := s.heap.push (tupO us), toks := t } :=
  laidT I (fun _ _ e => e) r hz (Nat.le_refl _) q
def NewT (H : Hp) (vs : List V) (Q : VK) : Prop := ∀ p us, H p = none → Vals vs us → Q (.ref p) (upd H p (.frz (tupO us) (.tup vs)))
/-- (a, b, ..) -/
theorem peTup {es : List Expr} {t : TA} {k : Nat} {pos : Pos} (h : PA X es t) : PE X (.Tuple es k pos) (fun sg H Q => t sg H fun vs G => vs.length ≤ sizeLine ∧ NewT G vs Q) := by
  constructor
  intro pins s sg H Q I hq
  refine wpAny_Tuple_spliced (thn (h.run pos pins s sg H _ I hq) ?_)
  rintro us s1 ⟨vs, G, I1, r, z, q⟩
  refine ⟨by rw [← r.length]; exact z, ?_⟩
  exact laidT0 (t := s1.toks) I1 r z fun p np => q p us np r
/-- tuple(x) -/
theorem crTuple : CallR X (.type "tuple") (fun xs H Q => ∃ p ys, xs = [.ref p] ∧ ((SqL X.K H p ys ∧ NewT H ys Q) ∨ (SqT X.K H p ys ∧ Q (.ref p) H))) := by
  intro pins s sg H xs us Q I r h
  obtain ⟨p, ys, rfl, h⟩ := h
  obtain ⟨u, rfl, rx⟩ := vals1 r
  cases rx
  rcases h with ⟨hq, q⟩ | ⟨hq, q⟩
  · obtain ⟨its, r', pl, hz⟩ := I.list hq
    refine call_tuple_list pl.isList (fun h' kp => ?_) (by rw [List.size_toArray, ← r'.length]; exact hz)
    have I1 : Inv X pins sg H { s with heap := h' } := I.kept (t' := s.toks) kp
    exact laidT0 (t := s.toks) I1 r' hz fun b nb => q b its nb r'
  · obtain ⟨its, r', pl, hz⟩ := I.tuple hq
    exact call_tuple_same pl ⟨.ref p, H, I, rfl, q⟩
/-- t + u -/
theorem opCatT : OpR X (binaryOp .Add) (fun x y H Q => ∃ a b xs ys, x = .ref a ∧ y = .ref b ∧ SqT X.K H a xs ∧ SqT X.K H b ys ∧ xs.length + ys.length ≤ sizeLine ∧
    (xs = [] → Q (.ref b) H) ∧ (xs ≠ [] → ys = [] → Q (.ref a) H) ∧ (xs ≠ [] → ys ≠ [] → NewT H (xs ++ ys) Q)) := by
  intro pins s sg H x y v u Q I rx ry h
  obtain ⟨a, b, xs, ys, rfl, rfl, ha, hb, hz, q0, q1, q2⟩ := h
  cases rx
  cases ry
  obtain ⟨its, r1, p1, _⟩ := I.tuple ha
  obtain ⟨jts, r2, p2, _⟩ := I.tuple hb
  have l1 := r1.length
  have l2 := r2.length
  by_cases hx : xs = []
  · subst hx
    cases r1
    exact cat_tup0 p1 p2 ⟨.ref b, H, I, rfl, q0 rfl⟩
  · have hx2 : its ≠ [] := fun e => hx (List.eq_nil_of_length_eq_zero (by rw [l1, e]; rfl))
    refine HT.cat_tup p1 p2 hx2 (fun e => ⟨.ref a, H, I, rfl, q1 hx (List.eq_nil_of_length_eq_zero (by rw [l2, e]; rfl))⟩) (fun e => ?_) (by omega)
    refine laidT0 (t := s.toks) I (r1.append r2) (by rw [List.length_append]; exact hz) fun p np => ?_
    exact q2 hx (fun z => e (List.eq_nil_of_length_eq_zero (by rw [← l2, z]; rfl))) p _ np (r1.append r2)
/-- t[lo:hi] -/
theorem slT : SlR X (fun x lo hi H Q => ∃ a xs, x = .ref a ∧ SqT X.K H a xs ∧
    ((HT.sIx xs.length 0 lo = 0 ∧ HT.sIx xs.length xs.length hi = xs.length) → Q (.ref a) H) ∧ NewT H (cutV xs lo hi) Q) := by
  intro pins s sg H x v vl vu lo hi sl Q I rx hs pl pu h
  obtain ⟨a, xs, rfl, hx, q1, q2⟩ := h
  cases rx
  obtain ⟨its, r, ht, hz⟩ := I.tuple hx
  have hlen : its.toArray.size = xs.length := by rw [List.size_toArray]; exact r.length.symm
  refine ⟨"tuple", _, PyProof.Rows.slot_tuple_getitem.lookup, ht.typeIs, ?_⟩
  by_cases hw : HT.sIx xs.length 0 lo = 0 ∧ HT.sIx xs.length xs.length hi = xs.length
  · exact getItem_tuple_whole ht hs pl pu (by rw [hlen]; exact hw) ⟨.ref a, H, I, rfl, q1 hw⟩
  · refine HT.getItem_tuple_cut ht hs pl pu (by rw [hlen]; exact hw) ?_ (by rw [hlen]; exact hz)
    rw [hlen]
    have rr := (r.drop (HT.sIx xs.length 0 lo)).take (HT.sIx xs.length xs.length hi - HT.sIx xs.length 0 lo)
    exact laidT0 (t := s.toks) I rr (Nat.le_trans (cutV_length xs lo hi) hz) fun p np => q2 p _ np rr
end
end Gz
/-! Data: ==, repr; methods of tuples. -/
namespace Gz
open PySem PySem.Spec PyProof.Rows L2

section
variable {X : Cx} {C : Cn} {W : Gh} {pins : List (Addr × Obj)} {sg : L2.St} {H : Hp} {s : Shared}
theorem mem_ne_sys (I : Inv X pins sg H s) (sm : ∃ mm, X.base.Ns sysModules mm) {a : Addr} {o : Obj} (h : s.heap.get? a = some o) (d : ∀ es n, o.data ≠ .dict es n) : a ≠ sysModules := fun e => by
  obtain ⟨mm, ob, es, ep, h1, h2, _⟩ := sm
  have h3 := I.bk sysModules ob h1
  rw [← e, h] at h3; cases h3
  exact d es ep h2
theorem key_reads {h : Heap} {k : Key} {v : Value} (e : keyIs k v = true) : Reads h v (keyD k) [] := by
  rcases keyIs_shape e with ⟨i, t, rfl, rfl⟩ | ⟨z, t, rfl, rfl⟩
  · exact .int i t
  · exact .str z t
mutual
theorem Rep.reads (hK : X.K = C.K) (I : Inv X pins sg H s) (sm : ∃ mm, X.base.Ns sysModules mm) (sb : Sub W H) : ∀ {v : Val} {x : V} {u : Value} {d : PyData}, toD v = some d → Rep C W v x → RelV x u → ∃ as, Reads s.heap u d as ∧ sysModules ∉ as
  | .non, _, _, _, e, h, r => by
    rw [toD] at e; cases e
    rw [Rep] at h; subst h
    cases r; exact ⟨_, .none, List.not_mem_nil⟩
  | .bl b, _, _, _, e, h, r => by
    rw [toD] at e; cases e
    rw [Rep] at h; subst h
    cases r; exact ⟨_, .bool b, List.not_mem_nil⟩
  | .int i, _, _, _, e, h, r => by
    rw [toD] at e; cases e
    rw [Rep] at h; subst h
    obtain ⟨t, rfl⟩ := r; exact ⟨_, .int i t, List.not_mem_nil⟩
  | .str z, _, _, _, e, h, r => by
    rw [toD] at e; cases e
    rw [Rep] at h; subst h
    obtain ⟨t, rfl⟩ := r; exact ⟨_, .str z t, List.not_mem_nil⟩
  | .tup xs, _, _, _, e, h, r => by
    rw [toD] at e
    cases q : toDs xs with
    | none => rw [q] at e; cases e
    | some ds =>
      rw [q] at e; cases e
      rw [Rep] at h
      obtain ⟨a, vs, rfl, t, rs⟩ := h
      cases r
      obtain ⟨its, rv, ⟨o, ho, hc, n, hd⟩, _⟩ := I.tuple (hK ▸ t.sq sb)
      obtain ⟨as, hr, hn⟩ := Reps.reads hK I sm sb q rs rv
      exact ⟨_, .tuple ho hc hd hr, hn⟩
  | .lst xs, _, _, _, e, h, r => by
    rw [toD] at e
    cases q : toDs xs with
    | none => rw [q] at e; cases e
    | some ds =>
      rw [q] at e; cases e
      rw [Rep] at h
      obtain ⟨a, vs, rfl, t, rs⟩ := h
      cases r
      obtain ⟨its, rv, ⟨o, n, ho, hc, _, hd⟩, _⟩ := I.list (.inl (.inl (sb _ _ t)))
      obtain ⟨as, hr, hn⟩ := Reps.reads hK I sm sb q rs rv
      refine ⟨_, .list ho hc hd hr, ?_⟩
      rw [List.mem_cons, not_or]
      exact ⟨(mem_ne_sys I sm ho (fun es n z => by rw [hd] at z; cases z)).symm, hn⟩
  | .dct kvs, _, _, _, e, h, r => by
    rw [toD] at e
    cases q : toDk kvs with
    | none => rw [q] at e; cases e
    | some ds =>
      rw [q] at e; cases e
      rw [Rep] at h
      obtain ⟨a, ks, rfl, t, rs⟩ := h
      cases r
      obtain ⟨_, na, vs, kv, o, es, ep, ho, hx, hd, _, hp, _⟩ := I.hok a _ (sb _ _ t)
      obtain ⟨as, h1, h2, hn⟩ := RepK.reads hK I sm sb q rs kv hp
      refine ⟨_, .dict ho hx.1 hd h1 h2, ?_⟩
      rw [List.mem_append, List.mem_singleton, not_or]
      exact ⟨fun z => (by rw [z, beq_self_eq_true] at na; cases na), hn⟩
  | .fz _, _, _, _, e, _, _ => by rw [toD] at e; cases e
  | .loc _, _, _, _, e, _, _ => by rw [toD] at e; cases e
  | .fn _, _, _, _, e, _, _ => by rw [toD] at e; cases e
theorem Reps.reads (hK : X.K = C.K) (I : Inv X pins sg H s) (sm : ∃ mm, X.base.Ns sysModules mm) (sb : Sub W H) : ∀ {v : List Val} {x : List V} {u : List Value} {d : List PyData}, toDs v = some d → Reps C W v x → Vals x u → ∃ as, ReadsAll s.heap u d as ∧ sysModules ∉ as
  | [], _, _, _, e, h, r => by
    rw [toDs] at e; cases e
    rw [reps_nil.mp h] at r
    cases r
    exact ⟨_, .nil, List.not_mem_nil⟩
  | y :: ys, _, _, _, e, h, r => by
    rw [toDs] at e
    cases q : toD y with
    | none => rw [q] at e; cases e
    | some d =>
      cases q2 : toDs ys with
      | none => rw [q, q2] at e; cases e
      | some ds =>
        rw [q, q2] at e; cases e
        obtain ⟨v, rest, rfl, h1, h2⟩ := reps_cons.mp h
        cases r with
        | cons r1 r2 =>
          obtain ⟨as, a1, a2⟩ := Rep.reads hK I sm sb q h1 r1
          obtain ⟨bs, b1, b2⟩ := Reps.reads hK I sm sb q2 h2 r2
          refine ⟨_, .cons a1 b1, ?_⟩
          rw [List.mem_append, not_or]
          exact ⟨a2, b2⟩
theorem RepK.reads (hK : X.K = C.K) (I : Inv X pins sg H s) (sm : ∃ mm, X.base.Ns sysModules mm) (sb : Sub W H) : ∀ {v : List (Key × Val)} {x : List (Key × V)} {d : List (PyData × PyData)} {vs : List (Key × Value)} {es : List DictEntry},
    toDk v = some d → RepK C W v x → KV x vs → PySem.Pairs (mixKind X.prog X.w) es vs → ∃ as, ReadsAll s.heap (es.map (·.key)) (d.map (·.1)) [] ∧ ReadsAll s.heap (es.map (·.val)) (d.map (·.2)) as ∧ sysModules ∉ as
  | [], _, _, _, _, e, h, r, p => by
    rw [toDk] at e; cases e
    rw [RepK] at h
    rw [h] at r
    cases r
    cases p
    exact ⟨[], .nil, .nil, List.not_mem_nil⟩
  | (k, y) :: ys, _, _, _, _, e, h, r, p => by
    rw [toDk] at e
    cases q : toD y with
    | none => rw [q] at e; cases e
    | some d =>
      cases q2 : toDk ys with
      | none => rw [q, q2] at e; cases e
      | some ds =>
        rw [q, q2] at e; cases e
        rw [RepK] at h
        obtain ⟨v, rest, rfl, h1, h2⟩ := h
        cases r with
        | cons r1 r2 =>
          cases p with
          | cons p1 p2 p3 =>
            obtain ⟨e1, e2⟩ := r1
            obtain ⟨as, a1, a2⟩ := Rep.reads hK I sm sb q h1 (p2 ▸ e2)
            obtain ⟨bs, b0, b1, b2⟩ := RepK.reads hK I sm sb q2 h2 r2 p3
            refine ⟨as ++ bs, ?_, ?_, ?_⟩
            · rw [List.map_cons, List.map_cons]
              exact .cons (key_reads (show keyIs k _ = true by have e1 : k = _ := e1; rw [e1]; exact p1)) b0
            · rw [List.map_cons, List.map_cons]
              exact .cons a1 b1
            · rw [List.mem_append, not_or]
              exact ⟨a2, b2⟩
end
/-- what may be read now -/
theorem RepB.reads (hK : X.K = C.K) (I : Inv X pins sg H s) (sm : ∃ mm, X.base.Ns sysModules mm) (sb : Sub W H) {v : Val} {x : V} {u : Value} {d : PyData} (e : toD v = some d) (h : RepB C W H v x) (r : RelV x u) : ∃ as, Reads s.heap u d as ∧ sysModules ∉ as := by
  cases v with
  | lst xs =>
    rw [toD] at e
    cases q : toDs xs with
    | none => rw [q] at e; cases e
    | some ds =>
      rw [q] at e; cases e
      obtain ⟨a, vs, rfl, t, rs⟩ := h
      cases r
      obtain ⟨its, rv, ⟨o, n, ho, hc, _, hd⟩, _⟩ := I.list (.inl (.inl t))
      obtain ⟨as, hr, hn⟩ := Reps.reads hK I sm sb q rs rv
      refine ⟨_, .list ho hc hd hr, ?_⟩
      rw [List.mem_cons, not_or]
      exact ⟨(mem_ne_sys I sm ho (fun es n z => by rw [hd] at z; cases z)).symm, hn⟩
  | dct kvs =>
    rw [toD] at e
    cases q : toDk kvs with
    | none => rw [q] at e; cases e
    | some ds =>
      rw [q] at e; cases e
      obtain ⟨a, ks, rfl, t, rs⟩ := h
      cases r
      obtain ⟨_, na, vs, kv, o, es, ep, ho, hx, hd, _, hp, _⟩ := I.hok a _ t
      obtain ⟨as, h1, h2, hn⟩ := RepK.reads hK I sm sb q rs kv hp
      refine ⟨_, .dict ho hx.1 hd h1 h2, ?_⟩
      rw [List.mem_append, List.mem_singleton, not_or]
      exact ⟨fun z => (by rw [z, beq_self_eq_true] at na; cases na), hn⟩
  | _ => exact Rep.reads hK I sm sb e h r
end
section
variable {X : Cx} {C : Cn}
/-- what the context must have -/
structure Cg (C : Cn) (X : Cx) : Prop where
  hK : X.K = C.K
  hm : X.mg = C.mg
  gd : X.A.guards = some []
  sm : ∃ mm, X.base.Ns sysModules mm
  un : X.A.units + 70 < cLine
def rEqq (C : Cn) (ng : Bool) : R2 := fun x y H Q => ∃ W v w b, Sub W H ∧ RepB C W H v x ∧ RepB C W H w y ∧ eqq v w = some b ∧ Q (.bl (if ng then !b else b)) H
theorem isTuple_of {pins : List (Addr × Obj)} {sg : L2.St} {H : Hp} {s : Shared} (I : Inv X pins sg H s) {a : Addr} {vs : List V} (h : SqT X.K H a vs) : ∃ its : List Value, Vals vs its ∧ s.heap.IsTuple a its.toArray := by
  obtain ⟨its, r, t, _⟩ := I.tuple h
  exact ⟨its, r, t⟩
theorem dataEq_cases {v w : Val} {b : Bool} (h : dataEq v w = some b) : ∃ d e, toD v = some d ∧ toD w = some e ∧ SeqAt.shaped d = true ∧ SeqAt.shaped e = true ∧ b = PyData.eqv d e := by
  unfold dataEq at h
  split at h
  · rename_i d e h1 h2
    split at h
    · rename_i hh
      cases h
      rw [Bool.and_eq_true] at hh
      exact ⟨d, e, h1, h2, hh.1, hh.2, rfl⟩
    · cases h
  · cases h
theorem short_cases {v w : Val} {b : Bool} (h : shortEq v w = some b) : (∃ xs ys, v = .tup xs ∧ w = .tup ys ∧ (xs = [] ∨ ys = []) ∧ b = (xs.length == ys.length)) ∨ (∃ xs ys, v = .lst xs ∧ w = .lst ys ∧ xs.length ≠ ys.length ∧ b = false) ∨ ∃ x y, v = .str x ∧ w = .str y ∧ b = (x == y) := by
  unfold shortEq at h
  split at h
  · rename_i ys
    cases h
    refine .inl ⟨_, _, rfl, rfl, .inl rfl, ?_⟩
    cases ys <;> rfl
  · cases h
    exact .inl ⟨_, _, rfl, rfl, .inr rfl, rfl⟩
  · split at h
    · cases h
    · rename_i hne
      cases h
      exact .inr (.inl ⟨_, _, rfl, rfl, hne, rfl⟩)
  · cases h
    exact .inr (.inr ⟨_, _, rfl, rfl, rfl⟩)
  · cases h
theorem opEqq (g : Cg C X) (ng : Bool) : OpR X (compareOp (if ng then .NotEq else .Eq)) (rEqq C ng) := by
  intro pins s sg H x y v u Q I rx ry h
  obtain ⟨W, a, b, t, sb, ha, hb, e, q⟩ := h
  have un := g.un
  unfold eqq at e
  cases e1 : shortEq a b with
  | none =>
    rw [e1] at e
    obtain ⟨d, d2, h1, h2, s1, s2, rfl⟩ := dataEq_cases e
    obtain ⟨as, r1, _⟩ := RepB.reads g.hK I g.sm sb h1 ha rx
    obtain ⟨bs, r2, _⟩ := RepB.reads g.hK I g.sm sb h2 hb ry
    cases ng with
    | false => exact SeqAt.compareEq_shaped r1 r2 s1 s2 (by omega) ⟨.bl _, H, I, rfl, q⟩
    | true => exact SeqAt.compareNe_shaped r1 r2 s1 s2 (by omega) ⟨.bl _, H, I, rfl, q⟩
  | some t2 =>
    rw [e1] at e
    cases e
    rcases short_cases e1 with ⟨xs, ys, rfl, rfl, hz, rfl⟩ | ⟨xs, ys, rfl, rfl, hz, rfl⟩ | ⟨z1, z2, rfl, rfl, rfl⟩
    · have ha : Rep C W (.tup xs) x := ha
      have hb : Rep C W (.tup ys) y := hb
      rw [Rep] at ha hb
      obtain ⟨p, vs, rfl, t1, r1⟩ := ha
      obtain ⟨p2, ws, rfl, t2, r2⟩ := hb
      cases rx
      cases ry
      obtain ⟨its, v1, i1⟩ := isTuple_of I (g.hK ▸ t1.sq sb)
      obtain ⟨jts, v2, i2⟩ := isTuple_of I (g.hK ▸ t2.sq sb)
      have l1 := r1.length
      have l2 := r2.length
      have l3 := v1.length
      have l4 := v2.length
      have m0 : min its.length jts.length = 0 := by
        rcases hz with rfl | rfl
        · have : its.length = 0 := by rw [← l3, ← l1]; rfl
          omega
        · have : jts.length = 0 := by rw [← l4, ← l2]; rfl
          omega
      have he : ∀ j (h1 : j < its.toArray.size) (h2 : j < jts.toArray.size), SeqAt.EqAt X.A.in1 s its.toArray[j] jts.toArray[j] ((fun _ => true) j) := fun j h1 h2 => by
        rw [List.size_toArray] at h1 h2
        omega
      have fin : ((List.range (min its.toArray.size jts.toArray.size)).all (fun _ => true) && its.toArray.size == jts.toArray.size) = (xs.length == ys.length) := by
        rw [List.size_toArray, List.size_toArray, m0, l1, l2, l3, l4]
        rfl
      cases ng with
      | false =>
        refine SeqAt.RcAt.tuples (e := fun _ => true) i1 i2 (by omega) he _ _ _ _ ?_
        rw [fin]
        exact ⟨.bl _, H, I, rfl, q⟩
      | true =>
        refine SeqAt.RcNeAt.tuples (e := fun _ => true) i1 i2 (by omega) he _ _ _ _ ?_
        rw [fin]
        exact ⟨.bl _, H, I, rfl, q⟩
    · obtain ⟨p, vs, rfl, t1, r1⟩ := ha
      obtain ⟨p2, ws, rfl, t2, r2⟩ := hb
      cases rx
      cases ry
      obtain ⟨its, v1, i1, _⟩ := I.list (.inl (.inl t1))
      obtain ⟨jts, v2, i2, _⟩ := I.list (.inl (.inl t2))
      have l1 := r1.length
      have l2 := r2.length
      have l3 := v1.length
      have l4 := v2.length
      have hne : (its.toArray.size != jts.toArray.size) = true := by
        rw [List.size_toArray, List.size_toArray, bne_iff_ne]
        omega
      cases ng with
      | false => exact SeqAt.RcAt.lists_lengths i1.isList i2.isList hne (by omega) _ _ _ _ ⟨.bl _, H, I, rfl, q⟩
      | true => exact SeqAt.RcNeAt.lists_lengths i1.isList i2.isList hne (by omega) _ _ _ _ ⟨.bl _, H, I, rfl, q⟩
    · have ha : Rep C W (.str z1) x := ha
      have hb : Rep C W (.str z2) y := hb
      rw [Rep] at ha hb
      subst ha
      subst hb
      have e3 : decide (V.str z1 = V.str z2) = (z1 == z2) := by
        by_cases e : z1 = z2
        · subst e; simp
        · simp [e]
      cases ng with
      | false =>
        refine op_eq pins s sg H _ _ v u Q I rx ry ⟨rfl, ?_⟩
        rw [e3]
        exact q
      | true =>
        refine op_ne pins s sg H _ _ v u Q I rx ry ⟨rfl, ?_⟩
        rw [e3]
        exact q
/-- repr(x) -/
def rRepr (C : Cn) : List V → Hp → VK → Prop := fun xs H Q => ∃ W x v z, xs = [x] ∧ Sub W H ∧ RepB C W H v x ∧ rep v = some z ∧ Q (.str z) H
theorem crRepr (g : Cg C X) : CallR X (.builtin "repr") (rRepr C) := by
  intro pins s sg H xs us Q I r h
  obtain ⟨W, x, v, z, rfl, sb, hv, e, q⟩ := h
  obtain ⟨u, rfl, ru⟩ := vals1 r
  have un := g.un
  unfold rep at e
  split at e
  · rename_i d hd
    split at e
    · rename_i hh
      cases e
      simp only [Bool.and_eq_true, decide_eq_true_eq] at hh
      obtain ⟨⟨h1, h2⟩, h3⟩ := hh
      obtain ⟨as, r1, ns⟩ := RepB.reads g.hK I g.sm sb hd hv ru
      cases r1 with
      | none => exact PySem.P.repr_of_none ⟨.str _, H, I.tok _, ⟨_, rfl⟩, q⟩
      | bool b => exact PySem.P.repr_of_bool ⟨.str _, H, I.tok _, ⟨_, rfl⟩, q⟩
      | int i t => exact PySem.P.repr_of_int (by simpa [PyData.showable] using h1) ⟨.str _, H, I.tok _, ⟨_, rfl⟩, q⟩
      | str y t => exact PySem.P.repr_of_str ⟨.str _, H, I.tok _, ⟨_, rfl⟩, q⟩ (by simpa only [PyData.shown] using h3)
      | list a1 a2 a3 a4 => exact repr_of_reads' (.list a1 a2 a3 a4) h1 (fun _ => ns) g.gd (by omega) (fun _ _ e => e) (fun h' u tk hk => ⟨.str _, H, I.kept hk, ⟨_, rfl⟩, q⟩) h3
      | tuple a1 a2 a3 a4 => exact repr_of_reads' (.tuple a1 a2 a3 a4) h1 (fun _ => ns) g.gd (by omega) (fun _ _ e => e) (fun h' u tk hk => ⟨.str _, H, I.kept hk, ⟨_, rfl⟩, q⟩) h3
      | dict a1 a2 a3 a4 a5 => exact repr_of_reads' (.dict a1 a2 a3 a4 a5) h1 (fun _ => ns) g.gd (by omega) (fun _ _ e => e) (fun h' u tk hk => ⟨.str _, H, I.kept hk, ⟨_, rfl⟩, q⟩) h3
    · cases e
  · cases e
end
end Gz
/-! Operators and built-ins by plain values, all kinds in one rule. -/
namespace Gz
open PySem PySem.Spec PyProof.Rows L2
section
variable {X : Cx} {C : Cn}
def opOf : Bop → Operator
  | .add => .Add
  | .sub => .Sub
  | .mul => .Mult
  | .fdiv => .FloorDiv
  | .mod => .Mod
  | .pow => .Pow
def rBin (C : Cn) (op : Bop) : R2 := fun x y H Q => ∃ W v w res, Sub W H ∧ Rep C W v x ∧ Rep C W w y ∧ binop op v w = some res ∧ Gives C W H Q res
theorem rep_int {W : Gh} {i : Int} {x : V} (h : Rep C W (.int i) x) : x = .int i := by rw [Rep] at h; exact h
theorem rep_str {W : Gh} {i : Str} {x : V} (h : Rep C W (.str i) x) : x = .str i := by rw [Rep] at h; exact h
theorem rep_bl {W : Gh} {i : Bool} {x : V} (h : Rep C W (.bl i) x) : x = .bl i := by rw [Rep] at h; exact h
theorem rep_non {W : Gh} {x : V} (h : Rep C W .non x) : x = .non := by rw [Rep] at h; exact h
theorem rep_tup {W : Gh} {xs : List Val} {x : V} (h : Rep C W (.tup xs) x) : ∃ a vs, x = .ref a ∧ TupAt C.K W.F a vs ∧ Reps C W xs vs := by rw [Rep] at h; exact h
theorem rep_lst {W : Gh} {xs : List Val} {x : V} (h : Rep C W (.lst xs) x) : ∃ a vs, x = .ref a ∧ W.F a = some (.lst vs) ∧ Reps C W xs vs := by rw [Rep] at h; exact h
theorem mk_int {W : Gh} {i : Int} : Rep C W (.int i) (.int i) := by rw [Rep]
theorem mk_bl {W : Gh} {i : Bool} : Rep C W (.bl i) (.bl i) := by rw [Rep]
theorem mk_str {W : Gh} {i : Str} : Rep C W (.str i) (.str i) := by rw [Rep]
theorem mk_non {W : Gh} : Rep C W .non .non := by rw [Rep]
theorem reps_isNil {W : Gh} {xs : List Val} {vs : List V} (h : Reps C W xs vs) : xs = [] ↔ vs = [] := by
  have l := h.length
  constructor
  · intro e; rw [e] at l; exact List.eq_nil_of_length_eq_zero l.symm
  · intro e; rw [e] at l; exact List.eq_nil_of_length_eq_zero l
/-! dicts, key by key -/
theorem repK_nil {W : Gh} {ks : List (Key × V)} : RepK C W [] ks ↔ ks = [] := by rw [RepK]
theorem repK_cons {W : Gh} {k : Key} {x : Val} {xs : List (Key × Val)} {ks : List (Key × V)} : RepK C W ((k, x) :: xs) ks ↔ ∃ v r, ks = (k, v) :: r ∧ Rep C W x v ∧ RepK C W xs r := by rw [RepK]
theorem RepK.len {W : Gh} : ∀ {kvs : List (Key × Val)} {ks : List (Key × V)}, RepK C W kvs ks → kvs.length = ks.length
  | [], _, h => by rw [repK_nil.mp h]; rfl
  | (k, x) :: r, _, h => by
    obtain ⟨v, q, rfl, _, h2⟩ := repK_cons.mp h
    rw [List.length_cons, List.length_cons, h2.len]
theorem RepK.get {W : Gh} {k : Key} : ∀ {kvs : List (Key × Val)} {ks : List (Key × V)}, RepK C W kvs ks → (valK kvs k = none ∧ valV ks k = none) ∨ ∃ v x, valK kvs k = some v ∧ valV ks k = some x ∧ Rep C W v x
  | [], _, h => by rw [repK_nil.mp h]; exact .inl ⟨rfl, rfl⟩
  | (k', x) :: r, _, h => by
    obtain ⟨v, q, rfl, h1, h2⟩ := repK_cons.mp h
    by_cases e : k' = k
    · refine .inr ⟨x, v, ?_, valV_pos e, h1⟩
      unfold valK
      simp [List.find?_cons, e]
    · rw [valV_neg e]
      have : valK ((k', x) :: r) k = valK r k := by unfold valK; simp [List.find?_cons, e]
      rw [this]
      exact h2.get
theorem RepK.any {W : Gh} {k : Key} : ∀ {kvs : List (Key × Val)} {ks : List (Key × V)}, RepK C W kvs ks → (kvs.any fun kv => decide (kv.1 = k)) = (ks.any fun kv => decide (kv.1 = k))
  | [], _, h => by rw [repK_nil.mp h]; rfl
  | (k', x) :: r, _, h => by
    obtain ⟨v, q, rfl, h1, h2⟩ := repK_cons.mp h
    rw [List.any_cons, List.any_cons, h2.any]
theorem RepK.mapP {W : Gh} {k : Key} {v : Val} {y : V} (hv : Rep C W v y) : ∀ {kvs : List (Key × Val)} {ks : List (Key × V)}, RepK C W kvs ks → RepK C W (kvs.map fun kv => if kv.1 = k then (kv.1, v) else kv) (ks.map fun kv => if kv.1 = k then (kv.1, y) else kv)
  | [], _, h => by rw [repK_nil.mp h]; exact repK_nil.mpr rfl
  | (k', x) :: r, _, h => by
    obtain ⟨z, q, rfl, h1, h2⟩ := repK_cons.mp h
    rw [List.map_cons, List.map_cons]
    by_cases e : k' = k
    · simp only [e, if_true]
      exact repK_cons.mpr ⟨y, _, rfl, hv, h2.mapP hv⟩
    · simp only [e, if_false]
      exact repK_cons.mpr ⟨z, _, rfl, h1, h2.mapP hv⟩
theorem RepK.snoc {W : Gh} {k : Key} {v : Val} {y : V} (hv : Rep C W v y) : ∀ {kvs : List (Key × Val)} {ks : List (Key × V)}, RepK C W kvs ks → RepK C W (kvs ++ [(k, v)]) (ks ++ [(k, y)])
  | [], _, h => by rw [repK_nil.mp h]; exact repK_cons.mpr ⟨y, [], rfl, hv, repK_nil.mpr rfl⟩
  | (k', x) :: r, _, h => by
    obtain ⟨z, q, rfl, h1, h2⟩ := repK_cons.mp h
    exact repK_cons.mpr ⟨z, _, rfl, h1, h2.snoc hv⟩
theorem RepK.put {W : Gh} {k : Key} {v : Val} {y : V} (hv : Rep C W v y) {kvs : List (Key × Val)} {ks : List (Key × V)} (h : RepK C W kvs ks) : RepK C W (putV kvs k v) (putK ks k y) := by
  unfold putV putK
  rw [h.any]
  split
  · exact h.mapP hv
  · exact h.snoc hv
theorem RepK.drop {W : Gh} {k : Key} : ∀ {kvs : List (Key × Val)} {ks : List (Key × V)}, RepK C W kvs ks → RepK C W (dropV kvs k) (dropK ks k)
  | [], _, h => by rw [repK_nil.mp h]; exact repK_nil.mpr rfl
  | (k', x) :: r, _, h => by
    obtain ⟨z, q, rfl, h1, h2⟩ := repK_cons.mp h
    have ih := h2.drop (k := k)
    unfold dropV dropK at ih ⊢
    by_cases e : k' = k
    · rw [List.filter_cons_of_neg (by simp [e]), List.filter_cons_of_neg (by simp [e])]
      exact ih
    · rw [List.filter_cons_of_pos (by simp [e]), List.filter_cons_of_pos (by simp [e])]
      exact repK_cons.mpr ⟨z, _, rfl, h1, ih⟩
/-- t * 1 is t -/
theorem opRep1 : OpR X (binaryOp .Mult) (fun x y H Q => ∃ a xs, x = .ref a ∧ y = .int 1 ∧ SqT X.K H a xs ∧ Q (.ref a) H) := by
  intro pins s sg H x y v u Q I rx ry h
  obtain ⟨l, xs, rfl, rfl, hT, q⟩ := h
  cases rx
  obtain ⟨t, rfl⟩ := ry
  obtain ⟨its, r, ⟨⟨cls, dd, data, sl⟩, ho, hc, n, hd⟩, hs⟩ := I.tuple hT
  simp only at hc hd
  subst hc hd
  refine wpAny_binaryOp_repeat_ref (T := "tuple") (U := "int") (by decide) ⟨_, ho, rfl⟩ (fun s' => typeIs_int s' 1 t) noFill_tuple_mul F.fills_int_mul F.slot_int_rmul repeat_tuple F.slot_int_index.lookup
    (call_meets F.slot_int_rmul (typeIs_int s 1 t) F.entry_int_rmul (F.args_int_rmul_2 _ _) (int_rmul_tuple 1 t l its.toArray n dd sl) ⟨ho, rfl, ⟨_, ho, rfl⟩, ?_⟩)
  refine call_meets F.slot_tuple_mul ⟨_, ho, rfl⟩ F.entry_tuple_mul (F.args_tuple_mul_2 _ _) (S := fun _ R s => s.heap.get? l = some { cls := .type "tuple", dict := dd, data := .seq its.toArray n, slots := sl } ∧ R (.ok (.ret (.ref l))) s) (.of_wp fun prog w A R s h => ?_) ⟨ho, ⟨.ref l, H, I, rfl, q⟩⟩
  obtain ⟨hp, g, d, tk, os⟩ := s
  obtain ⟨hl, h⟩ := h
  have f1 := AutoSeq1.idx_int
  wp_walk using wpAny_loadPart' hl
  exact ⟨_, rfl, h⟩
/-- t * 0 -/
theorem opRep0 : OpR X (binaryOp .Mult) (fun x y H Q => ∃ a xs, x = .ref a ∧ y = .int 0 ∧ SqT X.K H a xs ∧ xs ≠ [] ∧ NewT H [] Q) := by
  intro pins s sg H x y v u Q I rx ry h
  obtain ⟨l, xs, rfl, rfl, hT, hne, q⟩ := h
  cases rx
  obtain ⟨t, rfl⟩ := ry
  obtain ⟨its, r, ⟨⟨cls, dd, data, sl⟩, ho, hc, n, hd⟩, hs⟩ := I.tuple hT
  simp only at hc hd
  subst hc hd
  have hle : its.length = xs.length := r.length.symm
  have hpos : 0 < xs.length := List.length_pos_iff.mpr hne
  have hi : its.toArray.isEmpty = false := by
    have aux : ∀ l : List Value, l.length = xs.length → l.toArray.isEmpty = false := fun l hl => by
      cases l with
      | nil =>
        rw [List.length_nil] at hl
        omega
      | cons _ _ => rfl
    exact aux its hle
  refine wpAny_binaryOp_repeat_ref (T := "tuple") (U := "int") (by decide) ⟨_, ho, rfl⟩ (fun s' => typeIs_int s' 0 t) noFill_tuple_mul F.fills_int_mul F.slot_int_rmul repeat_tuple F.slot_int_index.lookup
    (call_meets F.slot_int_rmul (typeIs_int s 0 t) F.entry_int_rmul (F.args_int_rmul_2 _ _) (int_rmul_tuple 0 t l its.toArray n dd sl) ⟨ho, rfl, ⟨_, ho, rfl⟩, ?_⟩)
  have c1 : (its.toArray.isEmpty || (0 : Int) == 1) = false := by rw [hi]; rfl
  have W : Meets (Builtin.«tuple.__mul__» ⟨[.ref l, .int 0 t], []⟩) (fun _ R s => s.heap.get? l = some { cls := .type "tuple", dict := dd, data := .seq its.toArray n, slots := sl } ∧
      R (.ok (.ret (Value.ref s.heap.objs.size))) { s with heap := s.heap.push { cls := Value.type "tuple", data := Data.seq #[] }, toks := s.toks }) :=
    .of_wp fun prog w A R s h => by
      obtain ⟨hp, g, d, tk, os⟩ := s
      obtain ⟨hl, h⟩ := h
      have f1 := AutoSeq1.idx_int
      wp_walk using wpAny_loadPart' hl
      repeat (first
        | (refine wpAny_ite_false (decide_eq_false (by rw [c1]; exact Bool.false_ne_true)) ?_; wp_walk using wpAny_loadPart' hl))
      exact ⟨_, rfl, h⟩
  refine call_meets F.slot_tuple_mul ⟨_, ho, rfl⟩ F.entry_tuple_mul (F.args_tuple_mul_2 _ _) W ⟨ho, ?_⟩
  exact laidT0 (t := s.toks) I .nil (Nat.zero_le _) fun p np => q p _ np .nil
theorem opRepT : OpR X (binaryOp .Mult) (fun x y H Q => ∃ a k xs, x = .ref a ∧ y = .int k ∧ SqT X.K H a xs ∧ xs ≠ [] ∧ 2 ≤ k ∧ k ≤ 1000 ∧ xs.length ≤ 1000 ∧ NewT H (List.replicate k.toNat xs).flatten Q) := by
  intro pins s sg H x y v u Q I rx ry h
  obtain ⟨l, k, xs, rfl, rfl, hT, hne, h1, h2, hz, q⟩ := h
  cases rx
  obtain ⟨t, rfl⟩ := ry
  obtain ⟨its, r, ⟨⟨cls, dd, data, sl⟩, ho, hc, n, hd⟩, hs⟩ := I.tuple hT
  simp only at hc hd
  subst hc hd
  have hle : its.length = xs.length := r.length.symm
  have hpos : 0 < xs.length := List.length_pos_iff.mpr hne
  have hi : its.toArray.isEmpty = false := by
    have aux : ∀ l : List Value, l.length = xs.length → l.toArray.isEmpty = false := fun l hl => by
      cases l with
      | nil =>
        rw [List.length_nil] at hl
        omega
      | cons _ _ => rfl
    exact aux its hle
  have bound : k.toNat * xs.length ≤ 1000 * 1000 := Nat.mul_le_mul (by omega) hz
  have hm : ((its.toArray.size : Nat) : Int) * k ≤ 1000000 := by
    rw [List.size_toArray, hle]
    have e : ((xs.length : Nat) : Int) * k = ((k.toNat * xs.length : Nat) : Int) := by
      rw [Int.natCast_mul, Int.toNat_of_nonneg (by omega), Int.mul_comm]
    omega
  have flen : (List.replicate k.toNat its).flatten.length ≤ sizeLine := by
    rw [PyProof.Rows.lm_len_rep_flat, hle, sizeLine_eq]
    omega
  have c0 : (decide (k < -(2 ^ 63)) || decide (k ≥ 2 ^ 63)) = false := by
    rw [Bool.or_eq_false_iff]
    exact ⟨decide_eq_false (by omega), decide_eq_false (by omega)⟩
  have c1 : (its.toArray.isEmpty || k == 1) = false := by
    rw [Bool.or_eq_false_iff]
    exact ⟨hi, beq_eq_false_iff_ne.mpr (by omega)⟩
  have c2 : (decide (k ≤ 0) || its.toArray.isEmpty) = false := by
    rw [Bool.or_eq_false_iff]
    exact ⟨decide_eq_false (by omega), hi⟩
  have c4 : Builtin.Tuple.tupleTooMany (((its.toArray.size : Nat) : Int) * k) = false := by
    show decide _ = false
    rw [sizeLine_eq]
    exact decide_eq_false (by omega)
  have W := tuple_mulW l its.toArray n dd sl k t c0 c1 c2 (by omega) c4 (by rw [size_rep, List.size_toArray]; exact flen)
  refine wpAny_binaryOp_repeat_ref (T := "tuple") (U := "int") (by decide) ⟨_, ho, rfl⟩ (fun s' => typeIs_int s' k t) noFill_tuple_mul F.fills_int_mul F.slot_int_rmul repeat_tuple F.slot_int_index.lookup ?_
  refine call_meets F.slot_int_rmul (typeIs_int s k t) F.entry_int_rmul (F.args_int_rmul_2 _ _) (int_rmul_tuple k t l its.toArray n dd sl) ⟨ho, rfl, ⟨_, ho, rfl⟩, ?_⟩
  refine call_meets F.slot_tuple_mul ⟨_, ho, rfl⟩ F.entry_tuple_mul (F.args_tuple_mul_2 _ _) W ⟨ho, ?_⟩
  rw [size_rep]
  exact laidT0 (t := s.toks) I (r.rep k.toNat) (by rw [PyProof.Rows.lm_len_rep_flat, sizeLine_eq]; omega) fun p np => q p _ np (r.rep k.toNat)
theorem opBin (g : Cg C X) : ∀ op, OpR X (binaryOp (opOf op)) (rBin C op) := by
  intro op pins s sg H x y v u Q I rx ry h
  obtain ⟨W, a, b, res, sb, ha, hb, e, gv⟩ := h
  unfold binop at e
  split at e
  · cases e
    obtain rfl := rep_int ha; obtain rfl := rep_int hb
    exact op_add pins s sg H _ _ v u Q I rx ry ⟨_, _, rfl, rfl, gv.same mk_int⟩
  · split at e
    · rename_i hz
      cases e
      obtain rfl := rep_str ha; obtain rfl := rep_str hb
      exact op_add_str pins s sg H _ _ v u Q I rx ry ⟨_, _, rfl, rfl, hz, gv.same mk_str⟩
    · cases e
  · split at e
    · rename_i xs ys hz
      cases e
      obtain ⟨p, vs, rfl, t1, r1⟩ := rep_tup ha
      obtain ⟨p2, ws, rfl, t2, r2⟩ := rep_tup hb
      have l1 := r1.length
      have l2 := r2.length
      refine opCatT pins s sg H _ _ v u Q I rx ry ⟨p, p2, vs, ws, rfl, rfl, g.hK ▸ t1.sq sb, g.hK ▸ t2.sq sb, by omega, fun e => ?_, fun _ e => ?_, fun _ _ q us nq _ => gv.tup (sb.none nq) nq (r1.append r2)⟩
      · have e2 := (reps_isNil r1).mpr e
        subst e2
        exact gv.same (show Rep C W (.tup ([] ++ ys)) _ from hb)
      · have e2 := (reps_isNil r2).mpr e
        subst e2
        rw [List.append_nil] at gv
        exact gv.same ha
    · cases e
  · split at e
    · rename_i xs ys hz
      cases e
      obtain ⟨p, vs, rfl, t1, r1⟩ := rep_lst ha
      obtain ⟨p2, ws, rfl, t2, r2⟩ := rep_lst hb
      have l1 := r1.length
      have l2 := r2.length
      exact op_cat pins s sg H _ _ v u Q I rx ry ⟨p, p2, vs, ws, rfl, rfl, sb _ _ t1, sb _ _ t2, by omega, fun q nq => gv q _ nq (r1.append r2)⟩
    · cases e
  · cases e
    obtain rfl := rep_int ha; obtain rfl := rep_int hb
    exact op_sub pins s sg H _ _ v u Q I rx ry ⟨_, _, rfl, rfl, gv.same mk_int⟩
  · split at e
    · rename_i hz
      cases e
      obtain rfl := rep_int ha; obtain rfl := rep_int hb
      exact op_mul pins s sg H _ _ v u Q I rx ry ⟨_, _, rfl, rfl, hz, gv.same mk_int⟩
    · cases e
  · split at e
    · rename_i xs k hz
      cases e
      obtain ⟨p, vs, rfl, t1, r1⟩ := rep_tup ha
      obtain rfl := rep_int hb
      have l1 := r1.length
      exact opRepT pins s sg H _ _ v u Q I rx ry ⟨p, k, vs, rfl, rfl, g.hK ▸ t1.sq sb, fun e => hz.1 ((reps_isNil r1).mpr e), hz.2.1, hz.2.2.1, by omega, fun q us nq _ => gv.tup (sb.none nq) nq (r1.replicate _)⟩
    · split at e
      · rename_i hk
        cases e
        subst hk
        obtain ⟨p, vs, rfl, t1, r1⟩ := rep_tup ha
        obtain rfl := rep_int hb
        exact opRep1 pins s sg H _ _ v u Q I rx ry ⟨p, vs, rfl, rfl, g.hK ▸ t1.sq sb, gv.same ha⟩
      · split at e
        · rename_i hk
          obtain ⟨hk, hne⟩ := hk
          cases e
          subst hk
          obtain ⟨p, vs, rfl, t1, r1⟩ := rep_tup ha
          obtain rfl := rep_int hb
          exact opRep0 pins s sg H _ _ v u Q I rx ry ⟨p, vs, rfl, rfl, g.hK ▸ t1.sq sb, fun e => hne ((reps_isNil r1).mpr e), fun q us nq _ => gv.tup (sb.none nq) nq (reps_nil.mpr rfl)⟩
        · cases e
  · split at e
    · rename_i xs k hz
      cases e
      obtain ⟨p, vs, rfl, t1, r1⟩ := rep_lst ha
      obtain rfl := rep_int hb
      have l1 := r1.length
      exact op_rep pins s sg H _ _ v u Q I rx ry ⟨p, k, vs, rfl, rfl, sb _ _ t1, hz.1, hz.2.1, by rw [← l1]; exact hz.2.2, fun q nq => gv q _ nq (r1.replicate _)⟩
    · cases e
  · split at e
    · rename_i hz
      cases e
      obtain rfl := rep_int ha; obtain rfl := rep_int hb
      exact op_fdiv pins s sg H _ _ v u Q I rx ry ⟨_, _, rfl, rfl, hz, gv.same mk_int⟩
    · cases e
  · split at e
    · rename_i hz
      cases e
      obtain rfl := rep_int ha; obtain rfl := rep_int hb
      exact op_mod pins s sg H _ _ v u Q I rx ry ⟨_, _, rfl, rfl, hz, gv.same mk_int⟩
    · cases e
  · split at e
    · rename_i hz
      cases e
      obtain rfl := rep_int ha; obtain rfl := rep_int hb
      exact op_pow pins s sg H _ _ v u Q I rx ry ⟨_, _, rfl, rfl, hz, gv.same mk_int⟩
    · cases e
  · cases e
end
end Gz
/-! An item beside a value: ==, by data. -/
namespace Gz
open PySem PySem.Spec PyProof.Rows L2
theorem dict_eq_declines_int (l : Addr) (es : Array DictEntry) (n : Nat) (dd : Option Addr) (sl : Array (Option Value)) (b : Int) (u : Tok) :
    Meets (Builtin.«dict.__eq__» ⟨[.ref l, .int b u], []⟩) (fun _ R s => s.heap.get? l = some { cls := .type "dict", dict := dd, data := .dict es n, slots := sl } ∧ R (.ok (.ret .notImplemented)) s) :=
  .of_wp fun prog w A R s h => by obtain ⟨hp, g, d, tk, os⟩ := s; obtain ⟨hl, h⟩ := h; have f1 := F.sub_int_dict; wp_walk using wpAny_loadPart' hl; exact ⟨_, rfl, h⟩
theorem int_eq_declines_dict (b : Int) (u : Tok) (l : Addr) (c : Value) (es : Array DictEntry) (n : Nat) (dd : Option Addr) (sl : Array (Option Value)) :
    Meets (Builtin.«int.__eq__» ⟨[.int b u, .ref l], []⟩) (fun _ R s => s.heap.get? l = some { cls := c, dict := dd, data := .dict es n, slots := sl } ∧ R (.ok (.ret .notImplemented)) s) :=
  .of_wp fun prog w A R s h => by obtain ⟨hp, g, d, tk, os⟩ := s; obtain ⟨hl, h⟩ := h; wp_walk using wpAny_loadPart' hl, wpAny_load hl; exact ⟨_, rfl, h⟩
theorem eqAt_dict_int {A : Around} {s : Shared} {l : Addr} {o : Obj} {es : Array DictEntry} {n : Nat} (b : Int) (u : Tok) (ho : s.heap.get? l = some o) (hc : o.cls = .type "dict") (hd : o.data = .dict es n) (hu : A.units < cLine) : SeqAt.EqAt A s (.ref l) (.int b u) false := fun prog w E Q h => by
  unfold eqBool
  refine wpAny_holding ?_
  refine wpAny_ite_split (fun hab => absurd (eq_of_beq hab) nofun) (fun _ => ?_)
  refine wpAny_bind ?_
  obtain ⟨cls, dd, data, sl⟩ := o
  simp only at hc hd
  subst hc hd
  exact SeqAt.rc_eq_decline_or (k := false) ⟨_, ho, rfl⟩ (typeIs_int s b u) (by decide) F.sub_int_dict F.slot_dict_eq F.slot_int_eq_refl
    (fun _ hq => call_meets F.slot_dict_eq ⟨_, ho, rfl⟩ F.entry_dict_eq (F.args_dict_eq_2 _ _) (dict_eq_declines_int l es n dd sl b u) ⟨ho, hq⟩)
    (fun _ hq => call_meets F.slot_int_eq_refl (typeIs_int s b u) F.entry_int_eq (F.args_int_eq_2 _ _) (int_eq_declines_dict b u l (.type "dict") es n dd sl) ⟨ho, hq⟩)
    (fun _ hq => wpAny_of_eq (rfl : isSame (.ref l) (.int b u) = pure false) hq) (.inr hu) (wpAny_truthy_bool h)
section
variable {X : Cx} {C : Cn}
theorem flat_rep {W : Gh} {v : Val} {x : V} (h : Rep C W v x) (f : flat v = true) : flatV x = true := by
  cases v with
  | non => obtain rfl := rep_non h; rfl
  | bl b => obtain rfl := rep_bl h; rfl
  | int b => obtain rfl := rep_int h; rfl
  | str b => obtain rfl := rep_str h; rfl
  | _ => cases f
theorem flatEq_rep {W : Gh} {v w : Val} {x y : V} (h : Rep C W v x) (f : flat v = true) (h2 : Rep C W w y) (f2 : flat w = true) : eqV x y = flatEq v w := by
  cases v with
  | non =>
    obtain rfl := rep_non h
    cases w with
    | non => obtain rfl := rep_non h2; rfl
    | bl b => obtain rfl := rep_bl h2; rfl
    | int b => obtain rfl := rep_int h2; rfl
    | str b => obtain rfl := rep_str h2; rfl
    | _ => cases f2
  | bl b =>
    obtain rfl := rep_bl h
    cases w with
    | non => obtain rfl := rep_non h2; rfl
    | bl b => obtain rfl := rep_bl h2; rfl
    | int b => obtain rfl := rep_int h2; rfl
    | str b => obtain rfl := rep_str h2; rfl
    | _ => cases f2
  | int b =>
    obtain rfl := rep_int h
    cases w with
    | non => obtain rfl := rep_non h2; rfl
    | bl b => obtain rfl := rep_bl h2; rfl
    | int b => obtain rfl := rep_int h2; rfl
    | str b => obtain rfl := rep_str h2; rfl
    | _ => cases f2
  | str b =>
    obtain rfl := rep_str h
    cases w with
    | non => obtain rfl := rep_non h2; rfl
    | bl b => obtain rfl := rep_bl h2; rfl
    | int b => obtain rfl := rep_int h2; rfl
    | str b => obtain rfl := rep_str h2; rfl
    | _ => cases f2
  | _ => cases f
theorem all_flat {W : Gh} : ∀ {xs : List Val} {vs : List V}, Reps C W xs vs → xs.all flat = true → vs.all flatV = true
  | [], _, h, _ => by rw [reps_nil.mp h]; rfl
  | x :: xs, _, h, f => by
    obtain ⟨v, r, rfl, a, b⟩ := reps_cons.mp h
    rw [List.all_cons, Bool.and_eq_true] at f ⊢
    exact ⟨flat_rep a f.1, all_flat b f.2⟩
variable {W : Gh} {pins : List (Addr × Obj)} {sg : L2.St} {H : Hp} {s : Shared}
theorem toD_flat {z : Val} (f : flat z = true) : ∃ d, toD z = some d := by cases z <;> first | exact ⟨_, rfl⟩ | cases f
theorem readOf_flat {h : Heap} {z : Val} {x : V} {w : Value} {d : PyData} (hz : Rep C W z x) (f : flat z = true) (rz : RelV x w) (e : toD z = some d) : SeqAt.readOf h w = d := by
  have key : ∀ d0, (∃ as, Reads h w d0 as) → (∀ d' as', Reads h w d' as' → d' = d0) → SeqAt.readOf h w = d0 := fun d0 ⟨as, r⟩ un => by
    have hx : ∃ d as, Reads h w d as := ⟨d0, as, r⟩
    unfold SeqAt.readOf
    rw [dif_pos hx]
    obtain ⟨as', r'⟩ := hx.choose_spec
    exact un _ _ r'
  cases z with
  | non =>
    obtain rfl := rep_non hz
    cases rz; rw [toD] at e; cases e
    exact key _ ⟨_, .none⟩ fun d' as' r => by cases r; rfl
  | bl b =>
    obtain rfl := rep_bl hz
    cases rz; rw [toD] at e; cases e
    exact key _ ⟨_, .bool b⟩ fun d' as' r => by cases r; rfl
  | int b =>
    obtain rfl := rep_int hz
    obtain ⟨t, rfl⟩ := rz; rw [toD] at e; cases e
    exact key _ ⟨_, .int b t⟩ fun d' as' r => by cases r; rfl
  | str b =>
    obtain rfl := rep_str hz
    obtain ⟨t, rfl⟩ := rz; rw [toD] at e; cases e
    exact key _ ⟨_, .str b t⟩ fun d' as' r => by cases r; rfl
  | _ => cases f
theorem eqv_flat {z y : Val} {d d2 : PyData} (f : flat z = true) (f2 : flat y = true) (e : toD z = some d) (e2 : toD y = some d2) : PyData.eqv d d2 = flatEq z y := by
  cases z <;> cases y <;> first | exact absurd f Bool.false_ne_true | exact absurd f2 Bool.false_ne_true | (rw [toD] at e; rw [toD] at e2; cases e; cases e2; first | rfl | (rw [PyData.eqv]; rfl))
/-- the answer by what the item reads as -/
noncomputable def eqR (h : Heap) (y : Val) (w : Value) : Bool := PyData.eqv (SeqAt.readOf h w) ((toD y).getD .none)
theorem refNotInt {h : Heap} {i : Int} {a : Addr} : eqR h (.int i) (.ref a) = false := by
  unfold eqR SeqAt.readOf
  split
  · rename_i hx2
    obtain ⟨as', r'⟩ := hx2.choose_spec
    generalize hx2.choose = dd at r'
    cases r' <;> rfl
  · rfl
theorem el_ok (g : Cg C X) (I : Inv X pins sg H s) (sb : Sub W H) {z y : Val} {x x2 : V} {w v : Value} {b : Bool} {A : Around} (hA : A.units + 68 < cLine) (hz : Rep C W z x) (rz : RelV x w) (hy : Rep C W y x2) (ry : RelV x2 v) (e : elEq z y = some b) :
    SeqAt.EqAt A s w v (eqR s.heap y w) ∧ eqR s.heap y w = b := by
  unfold elEq at e
  split at e
  · rename_i f
    rw [Bool.and_eq_true] at f
    obtain ⟨d, h1⟩ := toD_flat f.1
    obtain ⟨d2, h2⟩ := toD_flat f.2
    have q : eqR s.heap y w = flatEq z y := by
      unfold eqR
      rw [h2, readOf_flat hz f.1 rz h1]
      exact eqv_flat f.1 f.2 h1 h2
    have e := Option.some.inj e
    rw [q]
    refine ⟨?_, e⟩
    rw [← flatEq_rep hz f.1 hy f.2]
    exact eqAt_V rz ry (flat_rep hz f.1) (flat_rep hy f.2)
  · split at e
    · rename_i kvs i f
      cases e
      obtain rfl := rep_int hy
      obtain ⟨t, rfl⟩ := ry
      rw [Rep] at hz
      obtain ⟨a, ks, rfl, t1, rs⟩ := hz
      cases rz
      obtain ⟨_, na, vs, kv, o, es, ep, ho, hx, hd, _, hp, _⟩ := I.hok a _ (sb _ _ t1)
      have q : eqR s.heap (.int i) (.ref a) = false := refNotInt
      rw [q]
      exact ⟨eqAt_dict_int i t ho hx.1 hd (by omega), rfl⟩
    · cases e
      obtain rfl := rep_int hy
      obtain ⟨t, rfl⟩ := ry
      obtain ⟨a, vs, rfl, t1, rs⟩ := rep_tup hz
      cases rz
      obtain ⟨its, rv, pl, _⟩ := I.tuple (g.hK ▸ t1.sq sb)
      rw [refNotInt]
      exact ⟨SeqAt.EqAt.tuple_int _ t pl (by omega), rfl⟩
    · cases e
      obtain rfl := rep_int hy
      obtain ⟨t, rfl⟩ := ry
      obtain ⟨a, vs, rfl, t1, rs⟩ := rep_lst hz
      cases rz
      obtain ⟨its, rv, pl, _⟩ := I.list (.inl (.inl (sb _ _ t1)))
      rw [refNotInt]
      exact ⟨SeqAt.EqAt.list_int _ t pl.isList (by omega), rfl⟩
    · obtain ⟨d, d2, h1, h2, s1, s2, rfl⟩ := dataEq_cases e
      obtain ⟨as, r1, _⟩ := Rep.reads g.hK I g.sm sb h1 hz rz
      obtain ⟨bs, r2, _⟩ := Rep.reads g.hK I g.sm sb h2 hy ry
      have q : eqR s.heap y w = PyData.eqv d d2 := by
        unfold eqR
        rw [h2, SeqAt.readOf_eq (SeqAt.canLay_of_shaped s1) r1]; rfl
      rw [q]
      refine ⟨SeqAt.eqAt_reads d d2 A s w v _ _ r1 r2 (SeqAt.canLay_of_shaped s1) (SeqAt.canLay_of_shaped s2) ?_, rfl⟩
      have := SeqAt.depth_of_shaped s1
      omega
theorem els_ok (g : Cg C X) (I : Inv X pins sg H s) (sb : Sub W H) {y : Val} {x2 : V} {v : Value} {A : Around} (hA : A.units + 68 < cLine) (hy : Rep C W y x2) (ry : RelV x2 v) :
    ∀ {zs : List Val} {xs : List V} {its : List Value} {bs : List Bool}, elEqs y zs = some bs → Reps C W zs xs → Vals xs its → (∀ w ∈ its, SeqAt.EqAt A s w v (eqR s.heap y w)) ∧ its.map (eqR s.heap y) = bs
  | [], xs, its, bs, e, h, r => by
    obtain rfl := reps_nil.mp h
    cases r
    cases e
    exact ⟨fun w hw => by simp at hw, rfl⟩
  | z :: zs, xs, its, bs, e, h, r => by
    obtain ⟨x, xs, rfl, a, b⟩ := reps_cons.mp h
    cases r with
    | cons r1 r2 =>
      rw [elEqs] at e
      split at e
      · rename_i t ts e1 e2
        cases e
        obtain ⟨h1, h2⟩ := el_ok g I sb hA a r1 hy ry e1
        obtain ⟨h3, h4⟩ := els_ok g I sb hA hy ry e2 b r2
        refine ⟨fun w hw => ?_, by rw [List.map_cons, h2, h4]⟩
        rcases List.mem_cons.mp hw with rfl | hw
        · exact h1
        · exact h3 w hw
      · cases e
theorem in1_room (g : Cg C X) : X.A.in1.units + 68 < cLine := by
  have := g.un
  show X.A.units + 1 + 68 < cLine
  omega
theorem any_els {h : Heap} {y : Val} {its : List Value} {bs : List Bool} (e : its.map (eqR h y) = bs) : its.toArray.any (eqR h y) = bs.any id := by
  rw [← e]
  simp [List.any_map]
end
end Gz
namespace Gz
open PySem PySem.Spec PyProof.Rows L2
section
variable {X : Cx} {C : Cn}
/-! ### comparisons -/
def copOf : Cop → CmpOp
  | .eq => .Eq
  | .ne => .NotEq
  | .lt => .Lt
  | .le => .LtE
  | .gt => .Gt
  | .ge => .GtE
  | .is => .Is
  | .isnot => .IsNot
  | .in_ => .In
  | .notin => .NotIn
def rCmp (C : Cn) (op : Cop) : R2 := fun x y H Q => ∃ W v w b, Sub W H ∧ Rep C W v x ∧ Rep C W w y ∧ cmpop op v w = some b ∧ Q (.bl b) H
theorem opInB (g : Cg C X) (ng : Bool) : OpR X (compareOp (if ng then .NotIn else .In)) (fun x y H Q => ∃ W v w b, Sub W H ∧ Rep C W v x ∧ RepB C W H w y ∧ isin v w = some b ∧ Q (.bl (if ng then !b else b)) H) := by
  intro pins s sg H x y v u Q I rx ry h
  obtain ⟨W, a, b, t, sb, ha, hb, e, q⟩ := h
  unfold isin at e
  split at e
  · rename_i kvs
    obtain ⟨p, ks, rfl, t1, rk⟩ := hb
    cases ry
    have un := g.un
    split at e
    · rename_i n
      cases e
      obtain rfl := rep_int ha
      have dg : DGet H p (.int n) (valV ks (.inl n)) := DGet.k (k := .inl n) t1
      have es : (valK kvs (.inl n)).isSome = (valV ks (.inl n)).isSome := by
        rcases rk.get (k := .inl n) with ⟨h1, h2⟩ | ⟨v, x, h1, h2, _⟩
        · rw [h1, h2]; rfl
        · rw [h1, h2]; rfl
      rw [es] at q
      cases ng with
      | false => exact d_in (by omega) I dg rx fun s3 I3 => ⟨.bl _, H, I3, rfl, q⟩
      | true => exact d_notIn (by omega) I dg rx fun s3 I3 => ⟨.bl _, H, I3, rfl, q⟩
    · cases e
      obtain rfl := rep_non ha
      cases rx
      cases ng with
      | false => exact d_inNone I (.inl t1) fun s3 I3 => ⟨.bl _, H, I3, rfl, q⟩
      | true => exact d_notInNone I (.inl t1) fun s3 I3 => ⟨.bl _, H, I3, rfl, q⟩
    · cases e
  · rename_i ys
    cases e2 : elEqs a ys with
    | none => rw [e2] at e; cases e
    | some bs =>
      rw [e2] at e; cases e
      have hb : Rep C W (.tup ys) y := hb
      obtain ⟨p, vs, rfl, t1, r1⟩ := rep_tup hb
      cases ry
      obtain ⟨its, r, pl, hz⟩ := I.tuple (g.hK ▸ t1.sq sb)
      obtain ⟨h1, h2⟩ := els_ok (A := X.A.in1) g I sb (in1_room g) ha rx e2 r1 r
      have e3 := any_els h2
      cases ng with
      | false => exact SeqAt.in_tupleAt (eqR s.heap a) pl (fun w hw => h1 w (by simpa using hw)) ⟨.bl _, H, I, rfl, by rw [e3]; exact q⟩
      | true => exact SeqAt.notIn_tupleAt (eqR s.heap a) pl (fun w hw => h1 w (by simpa using hw)) ⟨.bl _, H, I, rfl, by rw [e3]; exact q⟩
  · rename_i ys
    cases e2 : elEqs a ys with
    | none => rw [e2] at e; cases e
    | some bs =>
      rw [e2] at e; cases e
      obtain ⟨p, vs, rfl, t1, r1⟩ := hb
      cases ry
      obtain ⟨its, r, pl, hz⟩ := I.list (.inl (.inl t1))
      obtain ⟨h1, h2⟩ := els_ok (A := X.A.in1) g I sb (in1_room g) ha rx e2 r1 r
      have e3 := any_els h2
      cases ng with
      | false => exact SeqAt.in_listAt (eqR s.heap a) pl.isList (fun w hw => h1 w (by simpa using hw)) ⟨.bl _, H, I, rfl, by rw [e3]; exact q⟩
      | true => exact SeqAt.notIn_listAt (eqR s.heap a) pl.isList (fun w hw => h1 w (by simpa using hw)) ⟨.bl _, H, I, rfl, by rw [e3]; exact q⟩
  · cases e
theorem opIn (g : Cg C X) (ng : Bool) : OpR X (compareOp (if ng then .NotIn else .In)) (fun x y H Q => ∃ W v w b, Sub W H ∧ Rep C W v x ∧ Rep C W w y ∧ isin v w = some b ∧ Q (.bl (if ng then !b else b)) H) := by
  intro pins s sg H x y v u Q I rx ry h
  obtain ⟨W, a, b, t, sb, ha, hb, e, q⟩ := h
  exact opInB g ng pins s sg H x y v u Q I rx ry ⟨W, a, b, t, sb, ha, hb.b sb, e, q⟩
theorem opCmp (g : Cg C X) : ∀ op, OpR X (compareOp (copOf op)) (rCmp C op) := by
  intro op pins s sg H x y v u Q I rx ry h
  obtain ⟨W, a, b, t, sb, ha, hb, e, q⟩ := h
  cases op with
  | eq => exact opEqq g false pins s sg H x y v u Q I rx ry ⟨W, a, b, t, sb, ha.b sb, hb.b sb, e, q⟩
  | ne =>
    have e : (eqq a b).map (!·) = some t := e
    cases e2 : eqq a b with
    | none => rw [e2] at e; cases e
    | some t2 =>
      rw [e2] at e; cases e
      exact opEqq g true pins s sg H x y v u Q I rx ry ⟨W, a, b, t2, sb, ha.b sb, hb.b sb, e2, q⟩
  | lt =>
    unfold cmpop at e
    simp only at e
    split at e
    · cases e
      obtain rfl := rep_int ha; obtain rfl := rep_int hb
      exact op_lt pins s sg H _ _ v u Q I rx ry ⟨_, _, rfl, rfl, q⟩
    · cases e
  | le =>
    unfold cmpop at e
    simp only at e
    split at e
    · cases e
      obtain rfl := rep_int ha; obtain rfl := rep_int hb
      exact op_le pins s sg H _ _ v u Q I rx ry ⟨_, _, rfl, rfl, q⟩
    · cases e
  | gt =>
    unfold cmpop at e
    simp only at e
    split at e
    · cases e
      obtain rfl := rep_int ha; obtain rfl := rep_int hb
      exact op_gt pins s sg H _ _ v u Q I rx ry ⟨_, _, rfl, rfl, q⟩
    · cases e
  | ge =>
    unfold cmpop at e
    simp only at e
    split at e
    · cases e
      obtain rfl := rep_int ha; obtain rfl := rep_int hb
      exact op_ge pins s sg H _ _ v u Q I rx ry ⟨_, _, rfl, rfl, q⟩
    · cases e
  | is =>
    unfold cmpop at e
    simp only at e
    split at e
    · obtain rfl := rep_non hb
      refine op_isN pins s sg H _ _ v u Q I rx ry ⟨rfl, ?_⟩
      have e3 : decide (x = .non) = t := by
        cases e
        cases a with
        | non => obtain rfl := rep_non ha; rfl
        | bl _ => obtain rfl := rep_bl ha; rfl
        | int _ => obtain rfl := rep_int ha; rfl
        | str _ => obtain rfl := rep_str ha; rfl
        | tup _ => obtain ⟨_, _, rfl, _⟩ := rep_tup ha; rfl
        | lst _ => obtain ⟨_, _, rfl, _⟩ := rep_lst ha; rfl
        | fz _ => rw [Rep] at ha; obtain ⟨_, rfl, _⟩ := ha; rfl
        | dct _ => rw [Rep] at ha; obtain ⟨_, _, rfl, _⟩ := ha; rfl
        | loc _ => rw [Rep] at ha; obtain ⟨_, rfl, _⟩ := ha; rfl
        | fn _ => rw [Rep] at ha; obtain ⟨_, _, rfl, _⟩ := ha; rfl
      rw [e3]; exact q
    · split at e
      · rename_i b' _ c'
        cases e
        obtain rfl := rep_bl hb
        obtain rfl := rep_bl ha
        cases rx
        cases ry
        show wpAny _ _ ((isSame (.bool c') (.bool b')) >>= fun z => pure (Value.bool z)) _ _ s
        refine wpAny_bind ?_
        have e9 : isSame (.bool c') (.bool b') = pure (c' == b') := by cases c' <;> cases b' <;> rfl
        rw [e9]
        exact wpAny_pure (wpAny_pure (fin_bl I q rfl))
      · cases e
    · cases e
  | isnot =>
    unfold cmpop at e
    simp only at e
    split at e
    · obtain rfl := rep_non hb
      refine op_notN pins s sg H _ _ v u Q I rx ry ⟨rfl, ?_⟩
      have e3 : (!decide (x = .non)) = t := by
        cases e
        cases a with
        | non => obtain rfl := rep_non ha; rfl
        | bl _ => obtain rfl := rep_bl ha; rfl
        | int _ => obtain rfl := rep_int ha; rfl
        | str _ => obtain rfl := rep_str ha; rfl
        | tup _ => obtain ⟨_, _, rfl, _⟩ := rep_tup ha; rfl
        | lst _ => obtain ⟨_, _, rfl, _⟩ := rep_lst ha; rfl
        | fz _ => rw [Rep] at ha; obtain ⟨_, rfl, _⟩ := ha; rfl
        | dct _ => rw [Rep] at ha; obtain ⟨_, _, rfl, _⟩ := ha; rfl
        | loc _ => rw [Rep] at ha; obtain ⟨_, rfl, _⟩ := ha; rfl
        | fn _ => rw [Rep] at ha; obtain ⟨_, _, rfl, _⟩ := ha; rfl
      rw [e3]; exact q
    · split at e
      · rename_i b' _ c'
        cases e
        obtain rfl := rep_bl hb
        obtain rfl := rep_bl ha
        cases rx
        cases ry
        show wpAny _ _ ((isSame (.bool c') (.bool b')) >>= fun z => pure (Value.bool (!z))) _ _ s
        refine wpAny_bind ?_
        have e9 : isSame (.bool c') (.bool b') = pure (c' == b') := by cases c' <;> cases b' <;> rfl
        rw [e9]
        exact wpAny_pure (wpAny_pure (fin_bl I q rfl))
      · cases e
    · cases e
  | in_ => exact opIn g false pins s sg H x y v u Q I rx ry ⟨W, a, b, t, sb, ha, hb, e, q⟩
  | notin =>
    have e : (isin a b).map (!·) = some t := e
    cases e2 : isin a b with
    | none => rw [e2] at e; cases e
    | some t2 =>
      rw [e2] at e; cases e
      exact opIn g true pins s sg H x y v u Q I rx ry ⟨W, a, b, t2, sb, ha, hb, e2, q⟩
end
/-! ### sorted of a tuple -/
section
variable {prog : Program} {w : World} {A : Around} {E : Value → Shared → Prop} {s : Shared}
theorem collectT {l : Addr} {vs : List Value} {Q : List Value → Shared → Prop} (hl : s.heap.IsTuple l vs.toArray)
    (q : Q vs { s with heap := (s.heap.push (seqObj "list" #[] 0)).update s.heap.objs.size (Obj.mapSeq (· ++ vs.toArray)) }) (hz : vs.length ≤ sizeLine) :
    wpAny (model prog w) A (collect (.ref l)) Q E s := by
  obtain ⟨o, ho, hc, n, hd⟩ := id hl
  unfold collect
  refine wpAny_bind (wpAny_runValue (codeAny_builtin entry_proto_collect' ?_))
  show wpAny _ _ (do again (.builtin "list.__iadd__" ⟨[← newList [], .ref l], []⟩)) _ _ s
  refine wpAny_bind (wpAny_newList (wpAny_pure ⟨Code.quiet_builtin _ (by decide +kernel), codeAny_builtin entry_list_iadd' ?_⟩))
  show wpAny _ _ (Builtin.List.listExtendWith (.ref s.heap.objs.size) (.ref l) (.ref s.heap.objs.size)) _ _ { s with heap := s.heap.push (seqObj "list" #[] 0) }
  unfold Builtin.List.listExtendWith
  have hp := Heap.get?_push_of_some (seqObj "list" #[] 0) ho
  refine wpAny_bind (wpAny_typeOf (T := "tuple") ⟨o, hp, hc⟩ ?_)
  have ht : (Value.type "tuple" == Value.type "tuple") = true := rfl
  rw [if_pos (by rw [ht]; simp)]
  refine wpAny_bind (listItems_at hp hd ?_)
  refine wpAny_bind (listItems_at (xs := #[]) (n := 0) (Heap.get?_push_size _ rfl) rfl ?_)
  rw [if_neg (by simp)]
  refine wpAny_bind (listUpdate_at (xs := #[]) (n := 0) (Heap.get?_push_size _ rfl) rfl ?_ (Nat.zero_le _) ?_)
  · refine wpAny_pure ?_
    dsimp only
    refine wpAny_bind (wpAny_load (get?_update_seq (Heap.get?_push_size _ rfl) _) ?_)
    dsimp only
    refine wpAny_pure ?_
    have e : ((#[] : Array Value) ++ vs.toArray).toList = vs := by simp
    rw [e]
    exact q
  · show (#[] ++ vs.toArray).size ≤ sizeLine + 1
    rw [Array.size_append, List.size_toArray]
    simp
    omega
theorem sortedT {l : Addr} {vs : List Value} {ns : List Int} {Q : Value → Shared → Prop} (hl : s.heap.IsTuple l vs.toArray) (hI : IntsAre vs ns) (hz : vs.length ≤ sizeLine)
    (q : ∀ out : List Value, SrtO.Srtd SrtO.ltIv out → SrtO.Stb SrtO.ltIv out vs → Q (.ref (s.heap.objs.size + 1)) { s with heap := sortedAll s.heap vs out.toArray }) :
    wpAny (model prog w) A (call (.builtin "sorted") [.ref l]) Q E s := by
  refine Calls.call_function_entry kind_sorted plain_sorted entry_sorted (args_sorted1 _) ?_
  unfold Builtin.«sorted»
  refine wpAny_bind (m := checkCount "sorted" 1 1 _) (wpAny_pure ?_)
  refine wpAny_bind (collectT hl ?_ hz)
  refine wpAny_bind (wpAny_newList ?_ hz)
  have h1 : ((s.heap.push (seqObj "list" #[] 0)).update s.heap.objs.size (Obj.mapSeq (· ++ vs.toArray))).objs.size = s.heap.objs.size + 1 := (Heap.size_update ..).trans (size_push' _ _)
  have h2 : (((s.heap.push (seqObj "list" #[] 0)).update s.heap.objs.size (Obj.mapSeq (· ++ vs.toArray))).push (seqObj "list" vs.toArray 0)).get? (s.heap.objs.size + 1) = some (seqObj "list" vs.toArray 0) := h1 ▸ Heap.get?_push_size _ rfl
  show wpAny _ _ _ _ _ (Shared.mk (((s.heap.push (seqObj "list" #[] 0)).update s.heap.objs.size (Obj.mapSeq (· ++ vs.toArray))).push (seqObj "list" vs.toArray 0)) s.gens s.drawn s.toks s.os)
  rw [h1]
  refine wpAny_bind (wpAny_holding (wpAny_call_entry slot_list_sort ⟨_, h2, rfl⟩ entry_list_sort (SrtO.list_sort_ord SrtO.swo_int h2 hz (fun z => SrtO.ints_sortable hI z) fun out a b => ⟨_, rfl, ?_⟩) (args_list_sort _)))
  exact wpAny_pure ⟨_, rfl, q out a b⟩
end
/-! ### the greatest of a tuple -/
section
variable {prog : Program} {w : World} {A : Around} {E : Value → Shared → Prop} {s : Shared} {l : Addr} {xs : Array (Int × Tok)}
theorem iter_intTup {Q : Value → Shared → Prop} (hl : s.heap.IsTuple l (intItems xs))
    (h : ∀ s₂ : Shared, s₂ = { s with heap := s.heap.push { cls := .type "tuple_iterator", data := .fields #[.ref l, .int 0 0] } } →
      (s₂.heap.IsTupleIter s.heap.objs.size l 0 ∧ s₂.heap.IsTuple l (intItems xs)) → (∀ b ∈ [s.heap.objs.size, l], b < s₂.heap.objs.size) → l ≠ s.heap.objs.size → Q (.ref s.heap.objs.size) s₂) :
    wpAny (model prog w) A (pyIter (.ref l)) Q E s := by
  have hlt : l < s.heap.objs.size := by obtain ⟨_, e, _⟩ := hl; exact Heap.lt_size e
  refine wpAny_pyIter_tuple hl (h _ rfl ⟨⟨_, Heap.get?_push_size _ rfl, rfl, rfl⟩, hl.push _⟩ (fun b hb => ?_) (Nat.ne_of_lt hlt))
  show b < (s.heap.push _).objs.size
  rw [Heap.size_push]
  rcases List.mem_cons.mp hb with rfl | hb
  · exact Nat.lt_succ_self _
  · rcases List.mem_cons.mp hb with rfl | hb
    · exact Nat.lt_succ_of_lt hlt
    · cases hb
theorem old_keptT {h' : Heap} (hk : ∀ b o, b ∉ [s.heap.objs.size] → (s.heap.push { cls := .type "tuple_iterator", data := .fields #[.ref l, .int 0 0] }).get? b = some o → h'.get? b = some o) :
    ∀ b o, s.heap.get? b = some o → h'.get? b = some o := fun b o e => by
  refine hk b o (fun hm => ?_) (Heap.get?_push_of_some _ e)
  rcases List.mem_cons.mp hm with e1 | hm
  · exact absurd (e1 ▸ Heap.lt_size e) (Nat.lt_irrefl _)
  · cases hm
theorem max_intTup {Q : Value → Shared → Prop} (hh : A.handled = none) (hl : s.heap.IsTuple l (intItems xs)) (hne : 0 < xs.size)
    (h : ∀ v h' tk, (intItems xs)[argBest (fun i j => decide (numAt xs i > numAt xs j)) (xs.size - 1)]? = some v → (∀ b o, s.heap.get? b = some o → h'.get? b = some o) → Q v { s with heap := h', toks := tk }) :
    wpAny (model prog w) A (call (.builtin "max") [.ref l]) Q E s := by
  refine call_max_walk (iter_intTup hl fun s₂ e st hfp hlI => ?_)
  subst e
  refine ⟨_, _, _, _, _, _, _, rfl, Walks.tuple (A := A.in1) hh _ l hlI (intItems xs), st, hfp, by simpa [intItems] using hne, CmpOf.ints_gt (numAt xs) (fun _ _ => intItems_at), fun v h' tk hP hk => ?_⟩
  exact h v h' tk (by simpa [intItems] using hP) (old_keptT hk)
theorem min_intTup {Q : Value → Shared → Prop} (hh : A.handled = none) (hl : s.heap.IsTuple l (intItems xs)) (hne : 0 < xs.size)
    (h : ∀ v h' tk, (intItems xs)[argBest (fun i j => decide (numAt xs i < numAt xs j)) (xs.size - 1)]? = some v → (∀ b o, s.heap.get? b = some o → h'.get? b = some o) → Q v { s with heap := h', toks := tk }) :
    wpAny (model prog w) A (call (.builtin "min") [.ref l]) Q E s := by
  refine call_min_walk (iter_intTup hl fun s₂ e st hfp hlI => ?_)
  subst e
  refine ⟨_, _, _, _, _, _, _, rfl, Walks.tuple (A := A.in1) hh _ l hlI (intItems xs), st, hfp, by simpa [intItems] using hne, CmpOf.ints_lt (numAt xs) (fun _ _ => intItems_at), fun v h' tk hP hk => ?_⟩
  exact h v h' tk (by simpa [intItems] using hP) (old_keptT hk)
theorem max_rawT {vs : List Value} {ns : List Int} {Q : Value → Shared → Prop} (hh : A.handled = none)
    (hl : s.heap.IsTuple l vs.toArray) (hi : IntsAre vs ns) (hne : 0 < ns.length)
    (h : ∀ h' tk M (t : Tok), (∀ b o, s.heap.get? b = some o → h'.get? b = some o) → M ∈ ns → (∀ a, a ∈ ns → a ≤ M) → Q (.int M t) { s with heap := h', toks := tk }) :
    wpAny (model prog w) A (call (.builtin "max") [.ref l]) Q E s := by
  obtain ⟨xs, e⟩ := hi.allInts.items
  have hns : ns = xs.toList.map (·.1) := by
    rw [← hi.numsOf, ← nums_intItems, ← e]
  have hsz : 0 < xs.size := by
    have h3 := hne; rw [hns, List.length_map, Array.length_toList] at h3; exact h3
  rw [e] at hl
  refine max_intTup hh hl hsz fun v h' tk hv hk => ?_
  obtain ⟨t, rfl⟩ := intItems_at hv
  obtain ⟨h1, h2⟩ := argBest_gt (numAt xs) (xs.size - 1)
  refine h _ tk _ t hk ?_ fun a ha => ?_
  · rw [hns, numAt_eq]; exact getD_mem (by rw [List.length_map, Array.length_toList]; omega)
  · rw [hns] at ha
    obtain ⟨j, hj, rfl⟩ := mem_getD ha
    rw [List.length_map, Array.length_toList] at hj
    rw [← numAt_eq]; exact h2 j (by omega)
theorem min_rawT {vs : List Value} {ns : List Int} {Q : Value → Shared → Prop} (hh : A.handled = none)
    (hl : s.heap.IsTuple l vs.toArray) (hi : IntsAre vs ns) (hne : 0 < ns.length)
    (h : ∀ h' tk M (t : Tok), (∀ b o, s.heap.get? b = some o → h'.get? b = some o) → M ∈ ns → (∀ a, a ∈ ns → M ≤ a) → Q (.int M t) { s with heap := h', toks := tk }) :
    wpAny (model prog w) A (call (.builtin "min") [.ref l]) Q E s := by
  obtain ⟨xs, e⟩ := hi.allInts.items
  have hns : ns = xs.toList.map (·.1) := by
    rw [← hi.numsOf, ← nums_intItems, ← e]
  have hsz : 0 < xs.size := by
    have h3 := hne; rw [hns, List.length_map, Array.length_toList] at h3; exact h3
  rw [e] at hl
  refine min_intTup hh hl hsz fun v h' tk hv hk => ?_
  obtain ⟨t, rfl⟩ := intItems_at hv
  obtain ⟨h1, h2⟩ := argBest_lt (numAt xs) (xs.size - 1)
  refine h _ tk _ t hk ?_ fun a ha => ?_
  · rw [hns, numAt_eq]; exact getD_mem (by rw [List.length_map, Array.length_toList]; omega)
  · rw [hns] at ha
    obtain ⟨j, hj, rfl⟩ := mem_getD ha
    rw [List.length_map, Array.length_toList] at hj
    rw [← numAt_eq]; exact h2 j (by omega)
end
section
variable {X : Cx} {C : Cn}
theorem fold_max' : ∀ (l : List Int) (z : Int), (l.foldl (fun a b => if a < b then b else a) z ∈ z :: l) ∧ ∀ a ∈ z :: l, a ≤ l.foldl (fun a b => if a < b then b else a) z
  | [], z => ⟨.head _, fun a h => by cases h with | head => exact Int.le_refl _ | tail _ h => cases h⟩
  | y :: l, z => by
    have h := fold_max' l (if z < y then y else z)
    refine ⟨?_, fun a ha => ?_⟩
    · rcases List.mem_cons.mp h.1 with e | e
      · simp only [List.foldl_cons]
        rw [e]; split
        · exact .tail _ (.head _)
        · exact .head _
      · exact .tail _ (.tail _ e)
    · simp only [List.foldl_cons]
      have h0 := h.2 _ (.head _)
      have : z ≤ (if z < y then y else z) ∧ y ≤ (if z < y then y else z) := by split <;> omega
      rcases List.mem_cons.mp ha with rfl | ha
      · omega
      · rcases List.mem_cons.mp ha with rfl | ha
        · omega
        · exact h.2 _ (.tail _ ha)
theorem fold_min' : ∀ (l : List Int) (z : Int), (l.foldl (fun a b => if b < a then b else a) z ∈ z :: l) ∧ ∀ a ∈ z :: l, l.foldl (fun a b => if b < a then b else a) z ≤ a
  | [], z => ⟨.head _, fun a h => by cases h with | head => exact Int.le_refl _ | tail _ h => cases h⟩
  | y :: l, z => by
    have h := fold_min' l (if y < z then y else z)
    refine ⟨?_, fun a ha => ?_⟩
    · rcases List.mem_cons.mp h.1 with e | e
      · simp only [List.foldl_cons]
        rw [e]; split
        · exact .tail _ (.head _)
        · exact .head _
      · exact .tail _ (.tail _ e)
    · simp only [List.foldl_cons]
      have h0 := h.2 _ (.head _)
      have : (if y < z then y else z) ≤ z ∧ (if y < z then y else z) ≤ y := by split <;> omega
      rcases List.mem_cons.mp ha with rfl | ha
      · omega
      · rcases List.mem_cons.mp ha with rfl | ha
        · omega
        · exact h.2 _ (.tail _ ha)
theorem maxI_is {ns : List Int} {i : Int} (h : maxI ns = some i) : 0 < ns.length ∧ i ∈ ns ∧ ∀ a ∈ ns, a ≤ i := by
  cases ns with
  | nil => cases h
  | cons x r => cases h; exact ⟨Nat.succ_pos _, fold_max' r x⟩
theorem minI_is {ns : List Int} {i : Int} (h : minI ns = some i) : 0 < ns.length ∧ i ∈ ns ∧ ∀ a ∈ ns, i ≤ a := by
  cases ns with
  | nil => cases h
  | cons x r => cases h; exact ⟨Nat.succ_pos _, fold_min' r x⟩
theorem crMaxT (hc : X.calm = true) : CallR X (.builtin "max") (fun vs H Q => ∃ (a : Addr) (ns : List Int) (i : Int), vs = [V.ref a] ∧ SqT X.K H a (ns.map V.int) ∧ maxI ns = some i ∧ Q (.int i) H) := by
  intro pins s sg H vs us Q I r h
  obtain ⟨a, ns, i, rfl, hs, hi, q⟩ := h
  obtain ⟨h1, h2, h3⟩ := maxI_is hi
  obtain ⟨its, rv, hl, _⟩ := I.tuple hs
  rw [Vals.ref1 r]
  exact max_rawT (I.ok.hd hc) hl rv.ints h1 fun h' tk m t' hk h4 h5 => ⟨.int _, H, I.kept hk, ⟨_, rfl⟩, Int.le_antisymm (h5 i h2) (h3 m h4) ▸ q⟩
theorem crMinT (hc : X.calm = true) : CallR X (.builtin "min") (fun vs H Q => ∃ (a : Addr) (ns : List Int) (i : Int), vs = [V.ref a] ∧ SqT X.K H a (ns.map V.int) ∧ minI ns = some i ∧ Q (.int i) H) := by
  intro pins s sg H vs us Q I r h
  obtain ⟨a, ns, i, rfl, hs, hi, q⟩ := h
  obtain ⟨h1, h2, h3⟩ := minI_is hi
  obtain ⟨its, rv, hl, _⟩ := I.tuple hs
  rw [Vals.ref1 r]
  exact min_rawT (I.ok.hd hc) hl rv.ints h1 fun h' tk m t' hk h4 h5 => ⟨.int _, H, I.kept hk, ⟨_, rfl⟩, Int.le_antisymm (h3 m h4) (h5 i h2) ▸ q⟩
theorem crMaxL (hc : X.calm = true) : CallR X (.builtin "max") (fun vs H Q => ∃ (a : Addr) (ns : List Int) (i : Int), vs = [V.ref a] ∧ SqL X.K H a (ns.map V.int) ∧ maxI ns = some i ∧ Q (.int i) H) := by
  intro pins s sg H vs us Q I r h
  obtain ⟨a, ns, i, rfl, hs, hi, q⟩ := h
  obtain ⟨h1, h2, h3⟩ := maxI_is hi
  exact cr_max hc pins s sg H _ us Q I r ⟨a, ns, rfl, hs, h1, fun m h4 h5 => Int.le_antisymm (h5 i h2) (h3 m h4) ▸ q⟩
theorem crMinL (hc : X.calm = true) : CallR X (.builtin "min") (fun vs H Q => ∃ (a : Addr) (ns : List Int) (i : Int), vs = [V.ref a] ∧ SqL X.K H a (ns.map V.int) ∧ minI ns = some i ∧ Q (.int i) H) := by
  intro pins s sg H vs us Q I r h
  obtain ⟨a, ns, i, rfl, hs, hi, q⟩ := h
  obtain ⟨h1, h2, h3⟩ := minI_is hi
  exact cr_min hc pins s sg H _ us Q I r ⟨a, ns, rfl, hs, h1, fun m h4 h5 => Int.le_antisymm (h3 m h4) (h5 i h2) ▸ q⟩
theorem mergeSort_uniq {a b : List Int} (p : a.Perm b) (h : a.Pairwise (· ≤ ·)) : a = b.mergeSort fun x y => decide (x ≤ y) := by
  have s1 : (b.mergeSort fun x y => decide (x ≤ y)).Pairwise (fun x y => decide (x ≤ y) = true) := List.pairwise_mergeSort (fun _ _ _ h1 h2 => by simp only [decide_eq_true_eq] at *; omega) (fun _ _ => by simp only [Bool.or_eq_true, decide_eq_true_eq]; omega) b
  have s2 : (b.mergeSort fun x y => decide (x ≤ y)).Pairwise (· ≤ ·) := s1.imp (fun h => of_decide_eq_true h)
  have pm : a.Perm (b.mergeSort fun x y => decide (x ≤ y)) := p.trans (List.mergeSort_perm _ _).symm
  exact List.Perm.eq_of_pairwise (le := (· ≤ ·)) (fun _ _ _ _ h1 h2 => Int.le_antisymm h1 h2) h s2 pm
theorem crSortedT : CallR X (.builtin "sorted") (fun vs H Q => ∃ (a : Addr) (ns : List Int), vs = [V.ref a] ∧ SqT X.K H a (ns.map V.int) ∧
    ∀ p, H p = none → Q (.ref p) (upd H p (.lst ((ns.mergeSort fun x y => decide (x ≤ y)).map V.int)))) := by
  intro pins s sg H vs us Q I r h
  obtain ⟨a, ns, rfl, hs, q⟩ := h
  obtain ⟨its, rv, hl, hz⟩ := I.tuple hs
  obtain ⟨u, rfl, ru⟩ := vals1 r
  cases ru
  have hi := intsAre_of rv
  refine sortedT hl hi (by rw [← rv.length]; exact hz) fun out h1 h2 => ?_
  obtain ⟨k1, k2, k3⟩ := SrtO.ints_out hi h1 h2
  obtain ⟨ep, he⟩ := PyProof.Rows.sortedAll_at s.heap its out.toArray
  have eq := mergeSort_uniq k2 k3
  have np : H (s.heap.objs.size + 1) = none := I.hok.fresh (Nat.le_succ _)
  rw [← eq] at q
  have lz : ((out.map SrtO.iv).map V.int).length ≤ sizeLine := by
    rw [List.length_map, k2.length_eq]
    rw [List.length_map] at hz
    exact hz
  exact ⟨.ref _, upd H (s.heap.objs.size + 1) (.lst ((out.map SrtO.iv).map V.int)), I.laid (t' := s.toks) (fun _ _ e => PyProof.Rows.sortedAll_old e) (Nat.le_succ _) (show ObjOk X.prog X.w _ _ _ (.lst _) from ⟨lz, out, ep, vals_of_ints k1, he⟩), rfl, q _ np⟩
theorem crSortedL : CallR X (.builtin "sorted") (fun vs H Q => ∃ (a : Addr) (ns : List Int), vs = [V.ref a] ∧ SqL X.K H a (ns.map V.int) ∧
    ∀ p, H p = none → Q (.ref p) (upd H p (.lst ((ns.mergeSort fun x y => decide (x ≤ y)).map V.int)))) := by
  intro pins s sg H vs us Q I r h
  obtain ⟨a, ns, rfl, hs, q⟩ := h
  exact cr_sortedI pins s sg H _ us Q I r ⟨a, ns, rfl, hs, fun ns' p hp hs np => by rw [mergeSort_uniq hp hs]; exact q p np⟩
end
end Gz
namespace Gz
open PySem PySem.Spec PyProof.Rows L2
section
variable {X : Cx} {C : Cn}
def RepBs (C : Cn) (W : Gh) (H : Hp) : List Val → List V → Prop
  | [], xs => xs = []
  | v :: vs, xs => ∃ x r, xs = x :: r ∧ RepB C W H v x ∧ RepBs C W H vs r
theorem Reps.b {W : Gh} {H : Hp} (s : Sub W H) : ∀ {vs : List Val} {xs : List V}, Reps C W vs xs → RepBs C W H vs xs
  | [], _, h => reps_nil.mp h
  | v :: vs, _, h => by
    obtain ⟨x, r, rfl, a, b⟩ := reps_cons.mp h
    exact ⟨x, r, rfl, a.b s, Reps.b s b⟩
def bfFn : Bf → Value
  | .len => .builtin "len"
  | .tuple => .type "tuple"
  | .list => .type "list"
  | .sorted => .builtin "sorted"
  | .all => .builtin "all"
  | .any => .builtin "any"
  | .sum => .builtin "sum"
  | .repr => .builtin "repr"
  | .max2 => .builtin "max"
  | .min2 => .builtin "min"
  | .str => .type "str"
  | .abs => .builtin "abs"
  | .max1 => .builtin "max"
  | .min1 => .builtin "min"
def rBlt (C : Cn) (f : Bf) : List V → Hp → VK → Prop := fun xs H Q => ∃ W vs res, Sub W H ∧ RepBs C W H vs xs ∧ bltop f vs = some res ∧ Gives C W H Q res
theorem seqB {W : Gh} {H : Hp} {xs : List Val} {x : V} (h : RepB C W H (.lst xs) x) : ∃ a vs, x = .ref a ∧ H a = some (.lst vs) ∧ Reps C W xs vs := h
theorem b_int {W : Gh} {H : Hp} {i : Int} {x : V} (h : RepB C W H (.int i) x) : x = .int i := rep_int (C := C) (W := W) h
theorem b_str {W : Gh} {H : Hp} {i : Str} {x : V} (h : RepB C W H (.str i) x) : x = .str i := rep_str (C := C) (W := W) h
theorem b_bl {W : Gh} {H : Hp} {i : Bool} {x : V} (h : RepB C W H (.bl i) x) : x = .bl i := rep_bl (C := C) (W := W) h
theorem b_non {W : Gh} {H : Hp} {x : V} (h : RepB C W H .non x) : x = .non := rep_non (C := C) (W := W) h
theorem crBlt (g : Cg C X) (hc : X.calm = true) : ∀ f, CallR X (bfFn f) (rBlt C f) := by
  intro f pins s sg H xs us Q I r h
  obtain ⟨W, vs, res, sb, hv, e, gv⟩ := h
  unfold bltop at e
  split at e
  -- len
  · cases e
    obtain ⟨x, q, rfl, hx, rfl⟩ := hv
    obtain ⟨a, ys, rfl, t, rs⟩ := rep_tup hx
    exact call_len_seq pins s sg H _ us Q I r ⟨a, ys, rfl, .inr (g.hK ▸ t.sq sb), by rw [← rs.length]; exact gv.same mk_int⟩
  · cases e
    obtain ⟨x, q, rfl, hx, rfl⟩ := hv
    obtain ⟨a, ys, rfl, t, rs⟩ := seqB hx
    exact call_len_seq pins s sg H _ us Q I r ⟨a, ys, rfl, .inl (.inl (.inl t)), by rw [← rs.length]; exact gv.same mk_int⟩
  · cases e
    obtain ⟨x, q, rfl, hx, rfl⟩ := hv
    have hx : Rep C W (.fz _) x := hx
    rw [Rep] at hx
    obtain ⟨a, rfl, t⟩ := hx
    exact call_len_seq pins s sg H _ us Q I r ⟨a, _, rfl, .inl (g.hK ▸ sqL_mono t sb), by rw [List.length_map]; exact gv.same mk_int⟩
  · cases e
    obtain ⟨x, q, rfl, hx, rfl⟩ := hv
    obtain ⟨a, ks, rfl, t, rk⟩ := hx
    obtain ⟨u, rfl, rx⟩ := vals1 r
    cases rx
    exact d_len I (.inl t) fun tk s' I' => ⟨.int ks.length, H, I', ⟨tk, rfl⟩, by rw [← rk.len]; exact gv.same mk_int⟩
  · split at e
    · rename_i hz
      cases e
      obtain ⟨x, q, rfl, hx, rfl⟩ := hv
      obtain rfl := b_str hx
      exact call_len_str pins s sg H _ us Q I r ⟨_, rfl, hz, gv.same mk_int⟩
    · cases e
  -- tuple
  · cases e
    obtain ⟨x, q, rfl, hx, rfl⟩ := hv
    obtain ⟨a, ys, rfl, t, rs⟩ := seqB hx
    exact crTuple pins s sg H _ us Q I r ⟨a, ys, rfl, .inl ⟨.inl (.inl t), fun p us np _ => gv.tup (sb.none np) np rs⟩⟩
  · cases e
    obtain ⟨x, q, rfl, hx, rfl⟩ := hv
    obtain ⟨a, ys, rfl, t, rs⟩ := rep_tup hx
    exact crTuple pins s sg H _ us Q I r ⟨a, ys, rfl, .inr ⟨g.hK ▸ t.sq sb, gv.same hx⟩⟩
  -- list
  · cases e
    obtain ⟨x, q, rfl, hx, rfl⟩ := hv
    obtain ⟨a, ys, rfl, t, rs⟩ := seqB hx
    exact call_list_of pins s sg H _ us Q I r ⟨a, ys, rfl, .inl (.inl (.inl t)), fun p np => gv p ys np rs⟩
  · cases e
    obtain ⟨x, q, rfl, hx, rfl⟩ := hv
    obtain ⟨a, ys, rfl, t, rs⟩ := rep_tup hx
    exact call_list_of pins s sg H _ us Q I r ⟨a, ys, rfl, .inr (g.hK ▸ t.sq sb), fun p np => gv p ys np rs⟩
  -- sorted
  · rename_i zs
    cases e2 : ints? zs with
    | none => rw [e2] at e; cases e
    | some ns =>
      rw [e2] at e; cases e
      obtain ⟨x, q, rfl, hx, rfl⟩ := hv
      obtain ⟨a, ys, rfl, t, rs⟩ := seqB hx
      obtain rfl := ints_of rs e2
      exact crSortedL pins s sg H _ us Q I r ⟨a, ns, rfl, .inl (.inl t), fun p np => gv p _ np (reps_ints _)⟩
  · rename_i zs
    cases e2 : ints? zs with
    | none => rw [e2] at e; cases e
    | some ns =>
      rw [e2] at e; cases e
      obtain ⟨x, q, rfl, hx, rfl⟩ := hv
      obtain ⟨a, ys, rfl, t, rs⟩ := rep_tup hx
      obtain rfl := ints_of rs e2
      exact crSortedT pins s sg H _ us Q I r ⟨a, ns, rfl, g.hK ▸ t.sq sb, fun p np => gv p _ np (reps_ints _)⟩
  -- all
  · rename_i zs
    cases e2 : bools? zs with
    | none => rw [e2] at e; cases e
    | some ns =>
      rw [e2] at e; cases e
      obtain ⟨x, q, rfl, hx, rfl⟩ := hv
      obtain ⟨a, ys, rfl, t, rs⟩ := seqB hx
      obtain rfl := bools_of rs e2
      exact cr_all hc pins s sg H _ us Q I r ⟨a, ns, rfl, .inl (.inl t), gv.same mk_bl⟩
  -- sum
  · rename_i zs
    cases e2 : ints? zs with
    | none => rw [e2] at e; cases e
    | some ns =>
      rw [e2] at e; cases e
      obtain ⟨x, q, rfl, hx, rfl⟩ := hv
      obtain ⟨a, ys, rfl, t, rs⟩ := seqB hx
      obtain rfl := ints_of rs e2
      exact cr_sum hc pins s sg H _ us Q I r ⟨a, ns, rfl, .inl (.inl t), gv.same mk_int⟩
  -- repr
  · rename_i v
    cases e2 : rep v with
    | none => rw [e2] at e; cases e
    | some z =>
      rw [e2] at e; cases e
      obtain ⟨x, q, rfl, hx, rfl⟩ := hv
      exact crRepr g pins s sg H _ us Q I r ⟨W, x, v, z, rfl, sb, hx, e2, gv.same mk_str⟩
  -- max, min
  · cases e
    obtain ⟨x, q, rfl, hx, y, q2, rfl, hy, rfl⟩ := hv
    obtain rfl := b_int hx; obtain rfl := b_int hy
    exact call_max2 hc pins s sg H _ us Q I r ⟨_, _, rfl, gv.same mk_int⟩
  · cases e
    obtain ⟨x, q, rfl, hx, y, q2, rfl, hy, rfl⟩ := hv
    obtain rfl := b_int hx; obtain rfl := b_int hy
    exact call_min2 hc pins s sg H _ us Q I r ⟨_, _, rfl, gv.same mk_int⟩
  · rename_i zs
    cases e2 : ints? zs with
    | none => rw [e2] at e; cases e
    | some ns =>
      rw [e2] at e
      cases e3 : maxI ns with
      | none => rw [Option.bind_some, e3] at e; cases e
      | some i =>
        rw [Option.bind_some, e3] at e; cases e
        obtain ⟨x, q, rfl, hx, rfl⟩ := hv
        obtain ⟨a, ys, rfl, t, rs⟩ := rep_tup hx
        obtain rfl := ints_of rs e2
        exact crMaxT hc pins s sg H _ us Q I r ⟨a, ns, i, rfl, g.hK ▸ t.sq sb, e3, gv.same mk_int⟩
  · rename_i zs
    cases e2 : ints? zs with
    | none => rw [e2] at e; cases e
    | some ns =>
      rw [e2] at e
      cases e3 : maxI ns with
      | none => rw [Option.bind_some, e3] at e; cases e
      | some i =>
        rw [Option.bind_some, e3] at e; cases e
        obtain ⟨x, q, rfl, hx, rfl⟩ := hv
        obtain ⟨a, ys, rfl, t, rs⟩ := seqB hx
        obtain rfl := ints_of rs e2
        exact crMaxL hc pins s sg H _ us Q I r ⟨a, ns, i, rfl, .inl (.inl t), e3, gv.same mk_int⟩
  · rename_i zs
    cases e2 : ints? zs with
    | none => rw [e2] at e; cases e
    | some ns =>
      rw [e2] at e
      cases e3 : minI ns with
      | none => rw [Option.bind_some, e3] at e; cases e
      | some i =>
        rw [Option.bind_some, e3] at e; cases e
        obtain ⟨x, q, rfl, hx, rfl⟩ := hv
        obtain ⟨a, ys, rfl, t, rs⟩ := rep_tup hx
        obtain rfl := ints_of rs e2
        exact crMinT hc pins s sg H _ us Q I r ⟨a, ns, i, rfl, g.hK ▸ t.sq sb, e3, gv.same mk_int⟩
  · rename_i zs
    cases e2 : ints? zs with
    | none => rw [e2] at e; cases e
    | some ns =>
      rw [e2] at e
      cases e3 : minI ns with
      | none => rw [Option.bind_some, e3] at e; cases e
      | some i =>
        rw [Option.bind_some, e3] at e; cases e
        obtain ⟨x, q, rfl, hx, rfl⟩ := hv
        obtain ⟨a, ys, rfl, t, rs⟩ := seqB hx
        obtain rfl := ints_of rs e2
        exact crMinL hc pins s sg H _ us Q I r ⟨a, ns, i, rfl, .inl (.inl t), e3, gv.same mk_int⟩
  -- str
  · split at e
    · rename_i hz
      cases e
      obtain ⟨x, q, rfl, hx, rfl⟩ := hv
      obtain rfl := b_int hx
      exact call_str_int pins s sg H _ us Q I r ⟨_, rfl, hz, gv.same mk_str⟩
    · cases e
  · cases e
/-! ### isinstance -/
def tyOk (t : String) : Bool := t == "int" || t == "bool" || t == "tuple" || t == "list" || t == "str" || t == "dict"
theorem kits (a t : String) (b : Bool) (ha : a = "NoneType" ∨ a = "bool" ∨ a = "int" ∨ a = "str" ∨ a = "tuple" ∨ a = "list" ∨ a = "dict") (ht : tyOk t = true) (hb : b = (a == t || (a == "bool" && t == "int"))) : kitB a t = some b := by
  simp only [tyOk, Bool.or_eq_true, beq_iff_eq] at ht
  rcases ht with ((((rfl | rfl) | rfl) | rfl) | rfl) | rfl <;> rcases ha with rfl | rfl | rfl | rfl | rfl | rfl | rfl <;> subst hb <;> decide +kernel
theorem crIsi (g : Cg C X) : CallR X (.builtin "isinstance") (fun xs H Q => ∃ W v x t b, xs = [x, .ty t] ∧ tyOk t = true ∧ Sub W H ∧ RepB C W H v x ∧ isiv v t = some b ∧ Q (.bl b) H) := by
  intro pins s sg H xs us Q I r h
  obtain ⟨W, v, x, t, b, rfl, ht, sb, hx, e, q⟩ := h
  have fin : ∀ a : String, (a = "NoneType" ∨ a = "bool" ∨ a = "int" ∨ a = "str" ∨ a = "tuple" ∨ a = "list" ∨ a = "dict") → TyX X.K H x (.type a) → b = (a == t || (a == "bool" && t == "int")) → wpAny (model X.prog X.w) X.A (call (.builtin "isinstance") us) (EP X pins sg Q) X.xe s :=
    fun a ha ty hb => call_isi pins s sg H _ us Q I r ⟨x, .ty t, .type a, .type t, b, rfl, .ty t, ty, kit_ty (kits a t b ha ht hb), q⟩
  have cm : ∀ a b : String, (a == b) = (b == a) := fun a b => by
    by_cases h : a = b
    · subst h; rfl
    · rw [beq_eq_false_iff_ne.mpr h, beq_eq_false_iff_ne.mpr (Ne.symm h)]
  cases v with
  | non =>
    cases e
    obtain rfl := b_non hx
    exact fin "NoneType" (.inl rfl) (.base .non) (by rw [cm t]; simp)
  | bl z =>
    cases e
    obtain rfl := b_bl hx
    exact fin "bool" (.inr (.inl rfl)) (.base (.bl z)) (by rw [cm t "bool"]; simp)
  | int z =>
    cases e
    obtain rfl := b_int hx
    exact fin "int" (.inr (.inr (.inl rfl))) (.base (.int z)) (by rw [cm t]; simp)
  | str z =>
    cases e
    obtain rfl := b_str hx
    exact fin "str" (.inr (.inr (.inr (.inl rfl)))) (.base (.str z)) (by rw [cm t]; simp)
  | tup zs =>
    cases e
    obtain ⟨a, ys, rfl, tt, rs⟩ := rep_tup hx
    refine fin "tuple" (.inr (.inr (.inr (.inr (.inl rfl))))) ?_ (by rw [cm t]; simp)
    rcases tt with ⟨us, h⟩ | ⟨o, its, n, h1, h2, _⟩
    · exact .fTuple (sb _ _ h)
    · exact .kTuple (g.hK ▸ h1) h2
  | lst zs =>
    cases e
    obtain ⟨a, ys, rfl, tt, rs⟩ := seqB hx
    exact fin "list" (.inr (.inr (.inr (.inr (.inr (.inl rfl)))))) (.base (.lst tt)) (by rw [cm t]; simp)
  | dct zs =>
    cases e
    obtain ⟨a, ys, rfl, tt, rs⟩ := hx
    exact fin "dict" (.inr (.inr (.inr (.inr (.inr (.inr rfl)))))) (.base (.dK tt)) (by rw [cm t]; simp)
  | fz _ => cases e
  | loc _ => cases e
  | fn _ => cases e
/-! ### items -/
theorem atI_rep {W : Gh} {xs : List Val} {vs : List V} {i : Int} {v : Val} (h : Reps C W xs vs) (e : atI xs i = some v) : ∃ x, atI vs i = some x ∧ Rep C W v x := by
  unfold atI at e ⊢
  rw [← h.length]
  cases q : ixN xs.length i with
  | none => rw [q] at e; cases e
  | some j =>
    rw [q] at e
    obtain ⟨x, h1, h2⟩ := h.get (show xs[j]? = some v from e)
    exact ⟨x, h1, h2⟩
def rIdx (C : Cn) : R2 := fun x y H Q => ∃ W v w z, Sub W H ∧ RepB C W H v x ∧ Rep C W w y ∧ idxop v w = some z ∧ ∀ u, Rep C W z u → Q u H
theorem ixAll (g : Cg C X) : IxR X (rIdx C) := by
  intro value slice pins s sg H x y v u Q I rx ry h hs
  obtain ⟨W, a, b, z, sb, ha, hb, e, q⟩ := h
  unfold idxop at e
  split at e
  · obtain rfl := rep_int hb
    obtain ⟨p, vs, rfl, t, rs⟩ := rep_tup ha
    obtain ⟨o, h1, h2⟩ := atI_rep rs e
    exact ix_tup value slice pins s sg H _ _ v u Q I rx ry ⟨p, vs, _, o, rfl, rfl, g.hK ▸ t.sq sb, h1, q o h2⟩ hs
  · obtain rfl := rep_int hb
    obtain ⟨p, vs, rfl, t, rs⟩ := seqB ha
    obtain ⟨o, h1, h2⟩ := atI_rep rs e
    exact ix_list value slice pins s sg H _ _ v u Q I rx ry ⟨p, vs, _, o, rfl, rfl, .inl (.inl t), h1, q o h2⟩ hs
  · rename_i ns i
    obtain rfl := rep_int hb
    have ha : Rep C W (.fz _) x := ha
    rw [Rep] at ha
    obtain ⟨p, rfl, t⟩ := ha
    cases e2 : atI ns i with
    | none => rw [e2] at e; cases e
    | some k =>
      rw [e2] at e; cases e
      have e3 : atI (ns.map V.int) i = some (.int k) := by
        unfold atI at e2 ⊢
        rw [List.length_map]
        cases e4 : ixN ns.length i with
        | none => rw [e4] at e2; cases e2
        | some j =>
          rw [e4] at e2
          have e2 : ns[j]? = some k := e2
          show (ns.map V.int)[j]? = _
          rw [List.getElem?_map, e2]; rfl
      exact ix_list value slice pins s sg H _ _ v u Q I rx ry ⟨p, _, _, .int k, rfl, rfl, g.hK ▸ sqL_mono t sb, e3, q _ mk_int⟩ hs
  · obtain rfl := rep_int hb
    obtain ⟨p, ks, rfl, t, rk⟩ := ha
    cases rx
    rename_i kvs n
    rcases rk.get (k := .inl n) with ⟨h1, _⟩ | ⟨v', x', h1, h2, h3⟩
    · rw [h1] at e; cases e
    · rw [h1] at e
      cases e
      have dg : DGet H p (.int n) (some x') := h2 ▸ DGet.k (k := .inl n) t
      have un := g.un
      have dd := dict_typeIs I dg
      refine tail_any (ops := [.ref p, u]) dd PySem.F.slot_dict_getitem.lookup ?_ hs
      exact d_getItem (by omega) I dg ry fun w' s3 I3 rw' => ⟨x', H, I3, rw', q _ h3⟩
  · cases e
/-! ### slices -/
theorem cut_rep {W : Gh} {xs : List Val} {vs : List V} (h : Reps C W xs vs) (lo hi : Option Int) : Reps C W (cut xs lo hi) (cutV vs lo hi) := by
  unfold cut cutV
  rw [h.length]
  exact (h.drop _).take _
theorem cut_whole {xs : List Val} {lo hi : Option Int} (h1 : HT.sIx xs.length 0 lo = 0) (h2 : HT.sIx xs.length xs.length hi = xs.length) : cut xs lo hi = xs := by
  unfold cut
  rw [h1, h2, List.drop_zero, Nat.sub_zero, List.take_length]
theorem slAll (g : Cg C X) : SlR X (fun x lo hi H Q => ∃ W v res, Sub W H ∧ Rep C W v x ∧ slcop v lo hi = some res ∧ Gives C W H Q res) := by
  intro pins s sg H x v vl vu lo hi sl Q I rx hs pl pu h
  obtain ⟨W, a, res, sb, ha, e, gv⟩ := h
  unfold slcop at e
  split at e
  · cases e
    obtain ⟨p, vs, rfl, t, rs⟩ := rep_tup ha
    refine slT pins s sg H _ v vl vu lo hi sl Q I rx hs pl pu ⟨p, vs, rfl, g.hK ▸ t.sq sb, fun z => ?_, fun q us nq _ => gv.tup (sb.none nq) nq (cut_rep rs lo hi)⟩
    rw [← rs.length] at z
    rw [cut_whole z.1 z.2] at gv
    exact gv.same ha
  · cases e
    obtain ⟨p, vs, rfl, t, rs⟩ := rep_lst ha
    exact sl_list pins s sg H _ v vl vu lo hi sl Q I rx hs pl pu ⟨p, vs, rfl, .inl (.inl (sb _ _ t)), fun q nq => gv q _ nq (cut_rep rs lo hi)⟩
  · cases e
end
end Gz
namespace Gz
open PySem PySem.Spec PyProof.Rows L2
/-! ### t[::-1] -/
section
variable {prog : Program} {w : World} {A : Around} {E : Value → Shared → Prop} {s : Shared}
theorem filterMap_same {a b : Type} {f g : a → Option b} : ∀ {l : List a}, (∀ x ∈ l, f x = g x) → l.filterMap f = l.filterMap g
  | [], _ => rfl
  | x :: r, h => by
    rw [List.filterMap_cons, List.filterMap_cons, h x List.mem_cons_self, filterMap_same fun y hy => h y (List.mem_cons_of_mem _ hy)]
theorem pickBack : ∀ (xs : List Value), ((List.range xs.length).filterMap fun (k : Nat) => xs.toArray[((xs.length : Int) - 1 + (k : Int) * -1).toNat]?) = xs.reverse := fun xs => by
  have e : (List.range xs.length).filterMap (fun (k : Nat) => xs.toArray[((xs.length : Int) - 1 + (k : Int) * -1).toNat]?) = (List.range xs.length).filterMap fun k => xs.reverse[k]? := by
    refine filterMap_same fun k hk => ?_
    rw [List.mem_range] at hk
    rw [List.getElem?_reverse hk, List.getElem?_toArray]
    have : ((xs.length : Int) - 1 + (k : Int) * -1).toNat = xs.length - 1 - k := by omega
    rw [this]
  rw [e]
  have l : xs.length = xs.reverse.length := List.length_reverse.symm
  rw [l]
  generalize xs.reverse = ys
  induction ys with
  | nil => rfl
  | cons y r ih =>
    rw [List.length_cons, List.range_succ_eq_map, List.filterMap_cons]
    simp only [List.getElem?_cons_zero, List.filterMap_map]
    congr 1
theorem tupBack {t sl : Addr} {its : List Value} {vl vu vs : Value} {Q : Value → Shared → Prop} (ht : IsTup s.heap t its.toArray) (hs : s.heap.IsSliceOf sl vl vu vs) (pl : IsPart vl none) (pu : IsPart vu none) (ps : IsPart vs (some (-1)))
    (h : Q (.ref s.heap.objs.size) { s with heap := s.heap.push (Gz.tupO its.reverse) }) (hsz : its.length ≤ sizeLine) : wpAny (model prog w) A (getItem (.ref t) (.ref sl)) Q E s := by
  obtain ⟨os, hos, hcs, hds⟩ := id hs
  have hTs : s.TypeIs (.ref sl) "slice" := ⟨os, hos, hcs⟩
  have hz : sizeOk (.seq its.reverse.toArray) := by
    show its.reverse.toArray.size ≤ sizeLine
    rw [List.size_toArray, List.length_reverse]
    exact hsz
  unfold getItem
  try with_reducible refine wpAny_holding ?_
  first | refine wpAny_bind (wpAny_pure ?_) | skip
  refine wpAny_bind (wpAny_sequenceKey ht.typeIs (by decide) ?_)
  refine wpAny_bind (wpAny_callSpecial?_slot (name := Str.ofString "__getitem__") ht.typeIs PyProof.Rows.slot_tuple_getitem (wpAny_call_entry PyProof.Rows.slot_tuple_getitem ht.typeIs entry_tuple_getitem ?_ (args_tuple_getitem _ _)))
  show wpAny _ _ (Builtin.Tuple.tupleItemsOf (.ref t) >>= _) _ _ s
  refine wpAny_bind (tupleItemsOf_ ht ?_)
  refine wpAny_bind (wpAny_typeOf hTs ?_)
  rw [if_pos (by decide)]
  refine wpAny_bind (?_ : wpAny _ _ (Builtin.Slice.sliceApplied (.ref sl) _) _ _ s)
  unfold Builtin.Slice.sliceApplied Builtin.Slice.sliceFields
  refine wpAny_bind (wpAny_bind (wpAny_field hos hds (x := vl) rfl (wpAny_bind (wpAny_field hos hds (x := vu) rfl (wpAny_bind (wpAny_field hos hds (x := vs) rfl (wpAny_pure ?_)))))))
  refine wpAny_bind (HT.slicePart_ ps ?_)
  dsimp only [Option.getD]
  rw [if_neg (by decide)]
  refine wpAny_bind (HT.slicePart_ pl (wpAny_bind (HT.slicePart_ pu (wpAny_bind (wpAny_pure ?_)))))
  have adj : Builtin.Slice.sliceAdjust none none (-1) ((its.toArray.size : Nat) : Int) = ((its.length : Int) - 1, -1) := by
    rw [List.size_toArray]; rfl
  have pl2 : Builtin.Slice.slicePlaces ((its.length : Int) - 1) (-1) (-1) = its.length := by
    unfold Builtin.Slice.slicePlaces
    rw [if_neg (by decide)]
    by_cases h0 : its.length = 0
    · rw [if_neg (by omega), h0]; rfl
    · rw [if_pos (by omega), show (- -1 : Int) = 1 from rfl, Int.ediv_one]; omega
  rw [adj]
  dsimp only
  rw [pl2]
  refine wpAny_pure ?_
  dsimp only
  have hno : ¬ (((its.length : Int) - 1 == 0 && (-1 : Int) == 1 && its.length == its.toArray.size) = true) := by
    intro q
    rw [Bool.and_eq_true, Bool.and_eq_true] at q
    exact absurd q.1.2 (by decide)
  rw [if_neg hno, pickBack]
  exact wpAny_bind (m := Builtin.Tuple.tupleExact _) (wpAny_newObj_type (wpAny_pure ⟨_, rfl, wpAny_pure h⟩) hz)
end
section
variable {X : Cx} {C : Cn}
/-- x[::-1] -/
theorem peRev (g : Cg C X) {e : Expr} {te : TE} {k : Nat} {p1 p2 p3 pos : Pos} (he : PE X e te) : PE X (.Subscript e (.Slice none none (some (.UnaryOp .USub (.Constant (.int 1) k p1) p2)) p3) pos)
    (fun sg H Q => te sg H fun x G => ∃ W v res, Sub W G ∧ Rep C W v x ∧ revop v = some res ∧ Gives C W G Q res) := by
  constructor
  intro pins s sg H Q I h
  refine Subscript_ (thn (he.run pins s sg H _ I h) ?_)
  rintro v s1 ⟨x, H1, I1, r1, W, a0, res, sb, ha, e, gv⟩
  have part : PO X (some (.UnaryOp .USub (.Constant (.int 1) k p1) p2)) (tPart (tUn (rU fun i => .int (-i)) (tC (.int 1)))) := po_some (pe_un un_neg pe_int)
  refine wpAny_Slice (thn (po_none.run pins s1 sg H1 (fun o H2 => o = none ∧ H2 = H1) I1 ⟨rfl, rfl⟩) ?_)
  rintro vl s2 ⟨l, H2, I2, pl, rfl, rfl⟩
  refine thn (po_none.run pins s2 sg H2 (fun o H3 => o = none ∧ H3 = H2) I2 ⟨rfl, rfl⟩) ?_
  rintro vu s3 ⟨u, H3, I3, pu, rfl, rfl⟩
  refine thn (part.run pins s3 sg H3 (fun o H4 => o = some (-1) ∧ H4 = H3) I3 ⟨1, rfl, -1, rfl, rfl, rfl⟩) ?_
  rintro vs s4 ⟨o, H4, I4, ps, rfl, rfl⟩
  have I5 : Inv X pins sg H4 { s4 with heap := s4.heap.push { cls := .type "slice", data := .fields #[vl, vu, vs] } } := I4.kept (t' := s4.toks) fun b ob q => Heap.get?_push_of_some _ q
  unfold revop at e
  split at e
  · cases e
    obtain ⟨a, xs, rfl, t, rs⟩ := rep_tup ha
    cases r1
    obtain ⟨its, r, ht, hz⟩ := I5.tuple (g.hK ▸ t.sq sb)
    have hlen := r.length
    refine tail_any (ops := [.ref a, .ref s4.heap.objs.size]) ht.typeIs (PyProof.Rows.slot_tuple_getitem.lookup) ?_ (by with_unfolding_all rfl)
    refine tupBack ht (Heap.IsSliceOf.new _ vl vu vs) pl pu ps ?_ (by omega)
    exact laidT0 (t := s4.toks) I5 r.reverse (by rw [List.length_reverse]; exact hz) fun p np => gv.tup (sb.none np) np rs.reverse
  · cases e
    obtain ⟨a, xs, rfl, t, rs⟩ := rep_lst ha
    cases r1
    obtain ⟨its, r, ht, hz⟩ := I5.list (.inl (.inl (sb _ _ t)))
    have hlen := r.length
    refine tail_any (ops := [.ref a, .ref s4.heap.objs.size]) ht.isList.typeIs (PySem.slot_list_getitem.lookup) ?_ (by with_unfolding_all rfl)
    refine wpAny_getItem_list_slice ht.isList (Heap.IsSliceOf.new _ vl vu vs) pl pu ps (by decide) ?_ (by rw [List.size_toArray]; omega)
    rw [PySem.W.krv_pick]
    refine ⟨.ref _, _, I5.laid (t' := s4.toks) (o := .lst xs.reverse) (fun b ob q => Heap.get?_push_of_some _ q) (Nat.le_refl _) ?_, rfl, gv _ _ (I5.hok.fresh (Nat.le_refl _)) rs.reverse⟩
    exact ⟨by rw [List.length_reverse]; exact hz, _, 0, r.reverse, Heap.get?_push_size _ rfl⟩
  · cases e
/-! ### methods -/
def mtId : Mt → String → String
  | .index, t => t ++ ".index"
  | .count, t => t ++ ".count"
def rMth (C : Cn) (m : Mt) : V → List V → Hp → VK → Prop := fun x xs H Q => ∃ W v vs z, Sub W H ∧ Rep C W v x ∧ Reps C W vs xs ∧ mthop m v vs = some z ∧ ∀ u, Rep C W z u → Q u H
theorem lt_of_find {bs : List Bool} {j : Nat} (h : bs.findIdx? id = some j) : j < bs.length := (List.findIdx?_eq_some_iff_findIdx_eq.mp h).1
theorem find_hit {bs : List Bool} {j : Nat} (h : bs.findIdx? id = some j) : bs.getD j false = true := by
  obtain ⟨h1, h2⟩ := List.findIdx?_eq_some_iff_findIdx_eq.mp h
  subst h2
  have := List.findIdx_getElem (w := h1)
  rw [List.getD_eq_getElem?_getD, List.getElem?_eq_getElem h1]
  exact this
theorem find_no {bs : List Bool} {j m : Nat} (h : bs.findIdx? id = some j) (hm : m < j) : bs.getD m false = false := by
  obtain ⟨h1, h2⟩ := List.findIdx?_eq_some_iff_findIdx_eq.mp h
  subst h2
  have := List.not_of_lt_findIdx hm
  rw [List.getD_eq_getElem?_getD, List.getElem?_eq_getElem (Nat.lt_trans hm h1)]
  simpa using this
theorem mtIxL (g : Cg C X) : MtR X "list.index" (fun x xs H Q => ∃ W ys y bs j, Sub W H ∧ RepB C W H (.lst ys) x ∧ Reps C W [y] xs ∧ elEqs y ys = some bs ∧ bs.findIdx? id = some j ∧ Q (.int (j : Nat)) H) := by
  intro pins s sg H x xs v us Q I rx rxs h
  obtain ⟨W, ys, y, bs, j, sb, hx, hy, e, hj, q⟩ := h
  obtain ⟨z, r, rfl, hz, hr⟩ := reps_cons.mp hy
  obtain rfl := reps_nil.mp hr
  obtain ⟨a, vs, rfl, t, rs⟩ := hx
  cases rx
  obtain ⟨uz, rfl, rz⟩ := vals1 rxs
  obtain ⟨its, rv, ⟨⟨cls, dd, data, sl⟩, n, ho, hc, hdn, hd⟩, hlen⟩ := I.list (.inl (.inl t))
  simp only at hc hd
  subst hc hd
  obtain ⟨h1, h2⟩ := els_ok (A := X.A.in1) g I sb (in1_room g) hz rz e rs rv
  have hbl : bs.length = its.length := by rw [← h2, List.length_map]
  have hjl : j < its.length := by rw [← hbl]; exact lt_of_find hj
  have at_ : ∀ m (hm : m < its.length), bs[m]? = some (eqR s.heap y its[m]) := fun m hm => by rw [← h2, List.getElem?_map, List.getElem?_eq_getElem hm]; rfl
  refine call_meets PySem.F.slot_list_index ⟨_, ho, rfl⟩ PySem.F.entry_list_index (PySem.F.args_list_index_2 _ _)
    (SeqAt.list_index2_found a its.toArray n dd sl uz (fun m => bs.getD m false) j (by simpa using hjl) (Nat.zero_le _) (by have := line63; have := rv.length; have h3 := lt_of_find hj; omega) ?_ ?_) ⟨ho, fun m hm => ?_, ⟨.int (j : Nat), H, I.tok _, ⟨_, rfl⟩, q⟩⟩
  · exact find_hit hj
  · intro m hm _ hmj
    exact find_no hj hmj
  · have hml : m < its.length := by simpa using hm
    have := h1 its[m] (List.getElem_mem hml)
    rw [List.getD_eq_getElem?_getD, at_ m hml]
    simpa using this
theorem mtIxT (g : Cg C X) : MtR X "tuple.index" (fun x xs H Q => ∃ W ys y bs j, Sub W H ∧ Rep C W (.tup ys) x ∧ Reps C W [y] xs ∧ elEqs y ys = some bs ∧ bs.findIdx? id = some j ∧ Q (.int (j : Nat)) H) := by
  intro pins s sg H x xs v us Q I rx rxs h
  obtain ⟨W, ys, y, bs, j, sb, hx, hy, e, hj, q⟩ := h
  obtain ⟨z, r, rfl, hz, hr⟩ := reps_cons.mp hy
  obtain rfl := reps_nil.mp hr
  obtain ⟨a, vs, rfl, t, rs⟩ := rep_tup hx
  cases rx
  obtain ⟨uz, rfl, rz⟩ := vals1 rxs
  obtain ⟨its, rv, ⟨⟨cls, dd, data, sl⟩, ho, hc, n, hd⟩, hlen⟩ := I.tuple (g.hK ▸ t.sq sb)
  simp only at hc hd
  subst hc hd
  obtain ⟨h1, h2⟩ := els_ok (A := X.A.in1) g I sb (in1_room g) hz rz e rs rv
  have hbl : bs.length = its.length := by rw [← h2, List.length_map]
  have hjl : j < its.length := by rw [← hbl]; exact lt_of_find hj
  have at_ : ∀ m (hm : m < its.length), bs[m]? = some (eqR s.heap y its[m]) := fun m hm => by rw [← h2, List.getElem?_map, List.getElem?_eq_getElem hm]; rfl
  refine call_meets PySem.F.slot_tuple_index ⟨_, ho, rfl⟩ PySem.F.entry_tuple_index (PySem.F.args_tuple_index_2 _ _)
    (SeqAt.tuple_index2_found a its.toArray n dd sl uz (fun m => bs.getD m false) j (by simpa using hjl) (Nat.zero_le _) (by simpa using hjl) ?_ ?_) ⟨ho, fun m hm => ?_, ⟨.int (j : Nat), H, I.tok _, ⟨_, rfl⟩, q⟩⟩
  · exact find_hit hj
  · intro m hm _ hmj
    exact find_no hj hmj
  · have hml : m < its.length := by simpa using hm
    have := h1 its[m] (List.getElem_mem hml)
    rw [List.getD_eq_getElem?_getD, at_ m hml]
    simpa using this
theorem mtCtL (g : Cg C X) : MtR X "list.count" (fun x xs H Q => ∃ W ys y bs, Sub W H ∧ RepB C W H (.lst ys) x ∧ Reps C W [y] xs ∧ elEqs y ys = some bs ∧ Q (.int (bs.countP id : Nat)) H) := by
  intro pins s sg H x xs v us Q I rx rxs h
  obtain ⟨W, ys, y, bs, sb, hx, hy, e, q⟩ := h
  obtain ⟨z, r, rfl, hz, hr⟩ := reps_cons.mp hy
  obtain rfl := reps_nil.mp hr
  obtain ⟨a, vs, rfl, t, rs⟩ := hx
  cases rx
  obtain ⟨uz, rfl, rz⟩ := vals1 rxs
  obtain ⟨its, rv, ⟨⟨cls, dd, data, sl⟩, n, ho, hc, hdn, hd⟩, hlen⟩ := I.list (.inl (.inl t))
  simp only at hc hd
  subst hc hd
  obtain ⟨h1, h2⟩ := els_ok (A := X.A.in1) g I sb (in1_room g) hz rz e rs rv
  refine call_meets PySem.F.slot_list_count ⟨_, ho, rfl⟩ PySem.F.entry_list_count (PySem.F.args_list_count_2 _ _)
    (SeqAt.list_countAt a its.toArray n dd sl uz (eqR s.heap y)) ⟨ho, fun u hu => h1 u (by simpa using hu), ?_⟩
  refine ⟨.int _, H, I.tok _, ⟨_, rfl⟩, ?_⟩
  have : its.countP (eqR s.heap y) = bs.countP id := by rw [← h2, List.countP_map]; rfl
  rw [this]
  exact q
theorem mtCtT (g : Cg C X) : MtR X "tuple.count" (fun x xs H Q => ∃ W ys y bs, Sub W H ∧ Rep C W (.tup ys) x ∧ Reps C W [y] xs ∧ elEqs y ys = some bs ∧ Q (.int (bs.countP id : Nat)) H) := by
  intro pins s sg H x xs v us Q I rx rxs h
  obtain ⟨W, ys, y, bs, sb, hx, hy, e, q⟩ := h
  obtain ⟨z, r, rfl, hz, hr⟩ := reps_cons.mp hy
  obtain rfl := reps_nil.mp hr
  obtain ⟨a, vs, rfl, t, rs⟩ := rep_tup hx
  cases rx
  obtain ⟨uz, rfl, rz⟩ := vals1 rxs
  obtain ⟨its, rv, ⟨⟨cls, dd, data, sl⟩, ho, hc, n, hd⟩, hlen⟩ := I.tuple (g.hK ▸ t.sq sb)
  simp only at hc hd
  subst hc hd
  obtain ⟨h1, h2⟩ := els_ok (A := X.A.in1) g I sb (in1_room g) hz rz e rs rv
  refine call_meets PySem.F.slot_tuple_count ⟨_, ho, rfl⟩ PySem.F.entry_tuple_count (PySem.F.args_tuple_count_2 _ _)
    (SeqAt.tuple_countAt a its.toArray n dd sl uz (eqR s.heap y)) ⟨ho, fun u hu => h1 u (by simpa using hu), ?_⟩
  refine ⟨.int _, H, I.tok _, ⟨_, rfl⟩, ?_⟩
  have : its.countP (eqR s.heap y) = bs.countP id := by rw [← h2, List.countP_map]; rfl
  rw [this]
  exact q
end
end Gz
/-! list.insert, list.remove. -/
namespace Gz
open PySem PySem.Spec PyProof.Rows L2
section
variable {X : Cx} {C : Cn}
theorem mtIns : MtM X "list.insert" (fun x vs H Q => ∃ l xs y n, x = .ref l ∧ vs = [.int n, y] ∧ H l = some (.lst xs) ∧ 0 ≤ n ∧ n < 4611686018427387904 ∧ xs.length < sizeLine ∧ Q .non (upd H l (.lst (xs.take (min n.toNat xs.length) ++ y :: xs.drop (min n.toNat xs.length))))) := by
  intro pins s σ H x vs v us Q I rx rv h
  obtain ⟨l, xs, y, n, rfl, rfl, hH, h0, h1, hz, q⟩ := h
  cases rx
  cases rv with
  | cons r1 r2 =>
    obtain ⟨t, rfl⟩ := r1
    obtain ⟨u, rfl, ru⟩ := vals1 r2
    obtain ⟨z, its, m, r, hl, e⟩ := I.lstM hH
    have hf : Builtin.List.listFitsIndex n = true := by
      unfold Builtin.List.listFitsIndex
      simp only [Bool.and_eq_true, decide_eq_true_eq]
      omega
    refine call_meets PySem.F.slot_list_insert ⟨_, e, rfl⟩ PySem.F.entry_list_insert (PySem.F.args_list_insert_3 _ _ _) (PySem.AutoSeq1.list_insert_list_int_val_1 l its.toArray m n t u (by simp [hf]) (by rw [List.size_toArray]; omega)) ⟨e, ?_⟩
    refine ⟨.non, _, I.lset (its' := its.take (min n.toNat its.length) ++ u :: its.drop (min n.toNat its.length)) hH e ?_ ?_ ?_, rfl, q⟩
    · have : ¬ n < 0 := by omega
      simp [this, List.extract_eq_drop_take, List.take_take]
      exact List.take_of_length_le (by rw [List.length_drop]; exact Nat.le_refl _)
    · rw [hl]
      exact (r.take _).append (.cons ru (r.drop _))
    · simp only [List.length_append, List.length_cons, List.length_take, List.length_drop]
      omega
theorem mtRem (g : Cg C X) : MtM X "list.remove" (fun x vs H Q => ∃ W l xs ys y bs j, Sub W H ∧ x = .ref l ∧ H l = some (.lst xs) ∧ Reps C W ys xs ∧ Reps C W [y] vs ∧ elEqs y ys = some bs ∧ bs.findIdx? id = some j ∧ Q .non (upd H l (.lst (xs.eraseIdx j)))) := by
  intro pins s σ H x vs v us Q I rx rv h
  obtain ⟨W, l, xs, ys, y, bs, j, sb, rfl, hH, rs, hy, e, hj, q⟩ := h
  obtain ⟨z, r, rfl, hz, hr⟩ := reps_cons.mp hy
  obtain rfl := reps_nil.mp hr
  cases rx
  obtain ⟨uz, rfl, rz⟩ := vals1 rv
  obtain ⟨zz, its, m, rv, hl, eo⟩ := I.lstM hH
  obtain ⟨h1, h2⟩ := els_ok (A := X.A.in1) g I sb (in1_room g) hz rz e rs rv
  have hbl : bs.length = its.length := by rw [← h2, List.length_map]
  have hjl : j < its.length := by rw [← hbl]; exact lt_of_find hj
  have at_ : ∀ m (hm : m < its.length), bs.getD m false = eqR s.heap y its[m] := fun m hm => by rw [← h2, List.getD_eq_getElem?_getD, List.getElem?_map, List.getElem?_eq_getElem hm]; rfl
  refine call_meets PySem.F.slot_list_remove ⟨_, eo, rfl⟩ PySem.F.entry_list_remove (PySem.F.args_list_remove_2 _ _)
    (SeqAt.list_removeAt l its.toArray m none #[] uz (eqR s.heap y) j (by simpa using hjl) ?_ ?_ (by rw [List.size_toArray]; omega)) ⟨eo, fun w hw => h1 w (by simpa using hw), ?_⟩
  · have := find_hit hj
    rw [at_ j hjl] at this
    simpa using this
  · intro m hm hmj
    have := find_no hj hmj
    rw [at_ m (by simpa using hm)] at this
    simpa using this
  · refine ⟨.non, _, I.lset (its' := its.eraseIdx j) hH eo ?_ (rv.eraseIdx j) ?_, rfl, q⟩
    · rw [Array.eraseIdxIfInBounds, dif_pos (by simpa using hjl)]
      simp
    · rw [List.length_eraseIdx]
      split <;> omega
end
end Gz
/-! What the interpreter says, the machine does: the frame of the proof. -/
namespace Gz
open PySem PySem.Spec PyProof.Rows L2

/-- an exception as it lies behind a call -/
def ExR (C : Cn) (e : Exn) (cls : Value) (d : Option Addr) : Prop := ∃ n c, C.exs[e.cls]? = some n ∧ C.mg n = some (.ref c) ∧ cls = .ref c ∧ e.arg = none ∧ d = none
section
variable (C : Cn) (H0 : Hp) (W0 : Gh) (T : Hid) (Wx : WX) (sg : L2.St)
def Post {a b : Type} (R : Gh → Rho → Hp → a → b → Prop) (W : Gh) (Q : b → Hp → Prop) : Rs a → Prop
  | .ok v r s => ∀ U x G, W.le U → Okk C H0 W0 T U r s sg G → R U r G v x → Q x G
  | .exc e r s => ∀ U cls d G, W.le U → Okk C H0 W0 T U r s sg G → ExR C e cls d → Wx cls d sg G
  | .err => False
end
section
variable {C : Cn} {H0 : Hp} {W0 : Gh} {T : Hid} {Wx : WX} {sg : L2.St}
theorem Post.mono {a b : Type} {R : Gh → Rho → Hp → a → b → Prop} {W U : Gh} {Q : b → Hp → Prop} {x : Rs a} (le : W.le U) (h : Post C H0 W0 T Wx sg R W Q x) : Post C H0 W0 T Wx sg R U Q x := by
  cases x with
  | ok v r s => exact fun V y G l => h V y G (le.trans l)
  | exc e r s => exact fun V y d G l => h V y d G (le.trans l)
  | err => exact h
theorem Post.imp {a b : Type} {R : Gh → Rho → Hp → a → b → Prop} {W : Gh} {Q Q' : b → Hp → Prop} {x : Rs a} (h : Post C H0 W0 T Wx sg R W Q x) (i : ∀ y G, Q y G → Q' y G) : Post C H0 W0 T Wx sg R W Q' x := by
  cases x with
  | ok v r s => exact fun V y G l o q => i y G (h V y G l o q)
  | exc e r s => exact h
  | err => exact h
theorem Post.bind {a b c d : Type} {R : Gh → Rho → Hp → a → b → Prop} {R' : Gh → Rho → Hp → c → d → Prop} {W : Gh} {Q : d → Hp → Prop} {x : Rs a} {f : a → Rho → Sto → Rs c} (h : Post C H0 W0 T Wx sg R' W Q (x.bind f)) :
    Post C H0 W0 T Wx sg R W (fun y G => ∃ U r s v, W.le U ∧ Okk C H0 W0 T U r s sg G ∧ R U r G v y ∧ Post C H0 W0 T Wx sg R' U Q (f v r s)) x := by
  cases x with
  | ok v r s => exact fun U y G l o q => ⟨U, r, s, v, l, o, q, Post.mono l h⟩
  | exc e r s => exact h
  | err => exact h
/-- .. where nothing is known of the wish of exceptions but that none comes -/
theorem Post.quiet {a b : Type} {R : Gh → Rho → Hp → a → b → Prop} {W : Gh} {Q : b → Hp → Prop} {x : Rs a} {Wy : WX} (h : Post C H0 W0 T Wx sg R W Q (noExc x)) : Post C H0 W0 T Wy sg R W Q x := by
  cases x with
  | ok v r s => exact h
  | exc e r s => exact h.elim
  | err => exact h
end
section
variable (C : Cn) (H0 : Hp) (W0 : Gh) (T : Hid) (Wx : WX)
def VR (C : Cn) : Gh → Rho → Hp → Val → V → Prop := fun W _ _ v x => Rep C W v x
def AR (C : Cn) : Gh → Rho → Hp → List Val → List V → Prop := fun W _ _ v x => Reps C W v x
def OR : Gh → Rho → Hp → Option Int → Option Int → Prop := fun _ _ _ v x => v = x
def BR : Gh → Rho → Hp → Bool → Bool → Prop := fun _ _ _ v x => v = x
def tR (ev : Rho → Sto → Rs Rv) : TE := fun sg H Q => ∃ W r s, Okk C H0 W0 T W r s sg H ∧ Post C H0 W0 T Wx sg (RvR C H0 T sg) W Q (ev r s)
def tV (ev : Rho → Sto → Rs Val) : TE := fun sg H Q => ∃ W r s, Okk C H0 W0 T W r s sg H ∧ Post C H0 W0 T Wx sg (VR C) W Q (ev r s)
def tA (ev : Rho → Sto → Rs (List Val)) : TA := fun sg H Q => ∃ W r s, Okk C H0 W0 T W r s sg H ∧ Post C H0 W0 T Wx sg (AR C) W Q (ev r s)
def tO (ev : Rho → Sto → Rs (Option Int)) : TO := fun sg H Q => ∃ W r s, Okk C H0 W0 T W r s sg H ∧ Post C H0 W0 T Wx sg OR W Q (ev r s)
def tT (ev : Rho → Sto → Rs Bool) : TT := fun sg H Q => ∃ W r s, Okk C H0 W0 T W r s sg H ∧ Post C H0 W0 T Wx sg BR W Q (ev r s)
end
theorem _root_.L2.PE.conv {X : Cx} {e : Expr} {t u : TE} (h : PE X e t) (i : ∀ sg H Q, u sg H Q → t sg H Q) : PE X e u := ⟨fun pins s sg H Q I q => h.run pins s sg H Q I (i sg H Q q)⟩
theorem _root_.L2.PT.conv {X : Cx} {e : Expr} {t u : TT} (h : PT X e t) (i : ∀ sg H Q, u sg H Q → t sg H Q) : PT X e u := ⟨fun pins s sg H Q I q => h.run pins s sg H Q I (i sg H Q q)⟩
theorem _root_.L2.PW.conv {X : Cx} {e : Expr} {t u : TT} (h : PW X e t) (i : ∀ sg H Q, u sg H Q → t sg H Q) : PW X e u := ⟨fun wh pins s sg H Q I q => h.run wh pins s sg H Q I (i sg H Q q)⟩
theorem _root_.L2.PA.conv {X : Cx} {es : List Expr} {t u : TA} (h : PA X es t) (i : ∀ sg H Q, u sg H Q → t sg H Q) : PA X es u := ⟨fun pos pins s sg H Q I q => h.run pos pins s sg H Q I (i sg H Q q)⟩
theorem _root_.L2.PO.conv {X : Cx} {e : Option Expr} {t u : TO} (h : PO X e t) (i : ∀ sg H Q, u sg H Q → t sg H Q) : PO X e u := ⟨fun pins s sg H Q I q => h.run pins s sg H Q I (i sg H Q q)⟩
theorem _root_.L2.PS.conv {X : Cx} {st : Stmt} {t u : TS} (h : PS X st t) (i : ∀ D sg H, u D sg H → t D sg H) : PS X st u := ⟨fun pins s sg H D I q => h.run pins s sg H D I (i D sg H q)⟩
theorem _root_.L2.PSs.conv {X : Cx} {st : List Stmt} {t u : TS} (h : PSs X st t) (i : ∀ D sg H, u D sg H → t D sg H) : PSs X st u := ⟨fun pins s sg H D I q => h.run pins s sg H D I (i D sg H q)⟩
section
variable {C : Cn} {H0 : Hp} {W0 : Gh} {T : Hid} {Wx : WX} {sg : L2.St} {X : Cx}
/-- what is new may be a value -/
theorem frzP {W : Gh} {Q : VK} {x : Rs Rv} (h : Post C H0 W0 T Wx sg (VR C) W Q (frz x)) : Post C H0 W0 T Wx sg (RvR C H0 T sg) W Q x := by
  cases x with
  | ok v r s =>
    intro U y G l o q
    cases v with
    | val v => exact h U y G l o q
    | fr xs =>
      obtain ⟨V, l2, o2, q2⟩ := o.freeze q
      exact h V y G (l.trans l2) o2 q2
    | fd xs =>
      obtain ⟨V, l2, o2, q2⟩ := o.freezeD q
      exact h V y G (l.trans l2) o2 q2
  | exc e r s => exact h
  | err => exact h
theorem peV {e : Expr} {ev : Rho → Sto → Rs Rv} (h : PE X e (tR C H0 W0 T Wx ev)) : PE X e (tV C H0 W0 T Wx fun r s => frz (ev r s)) :=
  h.conv fun sg H Q ⟨W, r, s, o, p⟩ => ⟨W, r, s, o, frzP p⟩
theorem gives_of {W : Gh} {r : Rho} {s : Sto} {H : Hp} {Q : VK} {v : Rv} (o : Okk C H0 W0 T W r s sg H) (h : Post C H0 W0 T Wx sg (RvR C H0 T sg) W Q (.ok v r s)) : Gives C W H Q v := by
  cases v with
  | val v =>
    rintro x U G (⟨rfl, rfl⟩ | ⟨p, ob, np, rfl, rfl⟩) rx
    · exact h U x G (Gh.le.refl _) o rx
    · obtain ⟨o2, l2⟩ := o.new np ob
      exact h _ x _ l2 o2 rx
  | fr xs =>
    intro p vs np rs
    exact h W (.ref p) _ (Gh.le.refl _) (o.newL np _) (o.newR np rs)
  | fd xs =>
    intro p vs np rs
    exact h W (.ref p) _ (Gh.le.refl _) (o.newL np _) (o.newRD np rs)
theorem lift_gives {W : Gh} {r : Rho} {s : Sto} {H : Hp} {Q : VK} {v : Option Rv} (o : Okk C H0 W0 T W r s sg H) (h : Post C H0 W0 T Wx sg (RvR C H0 T sg) W Q (lift v r s)) : ∃ u, v = some u ∧ Gives C W H Q u := by
  cases v with
  | none => exact h.elim
  | some u => exact ⟨u, rfl, gives_of o h⟩
theorem lift_bl {W : Gh} {r : Rho} {s : Sto} {H : Hp} {Q : VK} {v : Option Bool} (o : Okk C H0 W0 T W r s sg H) (h : Post C H0 W0 T Wx sg (RvR C H0 T sg) W Q (lift (v.map fun t => Rv.val (.bl t)) r s)) : ∃ b, v = some b ∧ Q (.bl b) H := by
  cases v with
  | none => exact h.elim
  | some b => exact ⟨b, rfl, h W (.bl b) H (Gh.le.refl _) o (mk_bl (C := C) (W := W))⟩
theorem lift_val {W : Gh} {r : Rho} {s : Sto} {H : Hp} {Q : VK} {v : Option Val} (o : Okk C H0 W0 T W r s sg H) (h : Post C H0 W0 T Wx sg (RvR C H0 T sg) W Q (lift (v.map Rv.val) r s)) : ∃ z, v = some z ∧ ∀ u, Rep C W z u → Q u H := by
  cases v with
  | none => exact h.elim
  | some b => exact ⟨b, rfl, fun u hu => h W u H (Gh.le.refl _) o hu⟩
variable {F : FT}
theorem sBin (g : Cg C X) {a b : Expr} {ca cb : CE} {op : Bop} {pos : Pos} (ha : PE X a (tR C H0 W0 T Wx (evE F ca))) (hb : PE X b (tR C H0 W0 T Wx (evE F cb))) : PE X (.BinOp a (opOf op) b pos) (tR C H0 W0 T Wx (evE F (.bin op ca cb))) := by
  refine (pe_op (opBin g op) (peV ha) (peV hb)).conv ?_
  rintro sg H Q ⟨W, r, s, o, p⟩
  rw [evE] at p
  refine ⟨W, r, s, o, p.bind.imp ?_⟩
  rintro x G ⟨U, r1, s1, v, l1, o1, rx, p1⟩
  refine ⟨U, r1, s1, o1, p1.bind.imp ?_⟩
  rintro y G2 ⟨U2, r2, s2, w, l2, o2, ry, p2⟩
  obtain ⟨u, e, gv⟩ := lift_gives o2 p2
  exact ⟨U2, v, w, u, o2.sub, rx.mono l2, ry, e, gv⟩
theorem sNeg {a : Expr} {ca : CE} {pos : Pos} (ha : PE X a (tR C H0 W0 T Wx (evE F ca))) : PE X (.UnaryOp .USub a pos) (tR C H0 W0 T Wx (evE F (.neg ca))) := by
  refine (pe_un un_neg (peV ha)).conv ?_
  rintro sg H Q ⟨W, r, s, o, p⟩
  rw [evE] at p
  refine ⟨W, r, s, o, p.bind.imp ?_⟩
  rintro x G ⟨U, r1, s1, v, l1, o1, rx, p1⟩
  cases v with
  | int i => exact ⟨i, rep_int (C := C) (W := U) rx, p1 U _ G (Gh.le.refl _) o1 (mk_int (C := C) (W := U))⟩
  | _ => exact p1.elim
theorem sCmp (g : Cg C X) {a b : Expr} {ca cb : CE} {op : Cop} {pos : Pos} (ha : PE X a (tR C H0 W0 T Wx (evE F ca))) (hb : PE X b (tR C H0 W0 T Wx (evE F cb))) (hm : behindInMarks (copOf op) b = false) : PE X (.Compare a [copOf op] [b] pos) (tR C H0 W0 T Wx (evE F (.cmp op ca cb))) := by
  refine (pe_cmpR (opCmp g op) (peV ha) (peV hb) hm).conv ?_
  rintro sg H Q ⟨W, r, s, o, p⟩
  rw [evE] at p
  refine ⟨W, r, s, o, p.bind.imp ?_⟩
  rintro x G ⟨U, r1, s1, v, l1, o1, rx, p1⟩
  refine ⟨U, r1, s1, o1, p1.bind.imp ?_⟩
  rintro y G2 ⟨U2, r2, s2, w, l2, o2, ry, p2⟩
  obtain ⟨b, e, q⟩ := lift_bl o2 p2
  exact ⟨U2, v, w, b, o2.sub, rx.mono l2, ry, e, q⟩
/-- a test by its value -/
def tb (ev : Rho → Sto → Rs Rv) : Rho → Sto → Rs Bool := fun r s => (ev r s).bind fun x r s => match x with
  | .val (.bl b) => .ok b r s
  | _ => .err
theorem tb_post {W : Gh} {Q : Bool → Hp → Prop} {x : Rs Rv} (p : Post C H0 W0 T Wx sg BR W Q (x.bind fun x r s => match x with
  | .val (.bl b) => .ok b r s
  | _ => .err)) : Post C H0 W0 T Wx sg (RvR C H0 T sg) W (fun x G => ∃ c, x = .bl c ∧ Q c G) x := by
  refine p.bind.imp ?_
  rintro x G ⟨U, r1, s1, v, l1, o1, rx, p1⟩
  cases v with
  | fr xs => exact p1.elim
  | fd xs => exact p1.elim
  | val v =>
    cases v with
    | bl c => exact ⟨c, rep_bl (C := C) (W := U) rx, p1 U c G (Gh.le.refl _) o1 rfl⟩
    | _ => exact p1.elim
theorem sCmpT (g : Cg C X) {a b : Expr} {ca cb : CE} {op : Cop} {pos : Pos} (ha : PE X a (tR C H0 W0 T Wx (evE F ca))) (hb : PE X b (tR C H0 W0 T Wx (evE F cb))) (hm : behindInMarks (copOf op) b = false) : PT X (.Compare a [copOf op] [b] pos) (tT C H0 W0 T Wx (tb (evE F (.cmp op ca cb)))) := by
  refine (pt_cmpR (opCmp g op) (peV ha) (peV hb) hm).conv ?_
  rintro sg H Q ⟨W, r, s, o, p⟩
  have p := tb_post p
  rw [evE] at p
  refine ⟨W, r, s, o, p.bind.imp ?_⟩
  rintro x G ⟨U, r1, s1, v, l1, o1, rx, p1⟩
  refine ⟨U, r1, s1, o1, p1.bind.imp ?_⟩
  rintro y G2 ⟨U2, r2, s2, w, l2, o2, ry, p2⟩
  obtain ⟨b, e, q⟩ := lift_bl o2 p2
  exact ⟨U2, v, w, b, o2.sub, rx.mono l2, ry, e, q⟩
theorem chnP (g : Cg C X) {ca cb cc : CE} {o1 o2 : Cop} {W : Gh} {r : Rho} {s : Sto} {H : Hp} {Q : VK} (o : Okk C H0 W0 T W r s sg H) (p : Post C H0 W0 T Wx sg (RvR C H0 T sg) W Q (evE F (.chn o1 o2 ca cb cc) r s)) :
    tChain (rCmp C o1) (rCmp C o2) (tV C H0 W0 T Wx fun r s => frz (evE F ca r s)) (tV C H0 W0 T Wx fun r s => frz (evE F cb r s)) (tV C H0 W0 T Wx fun r s => frz (evE F cc r s)) sg H Q := by
  rw [evE] at p
  refine ⟨W, r, s, o, p.bind.imp ?_⟩
  rintro x G ⟨U, r1, s1, v, l1, ok1, rx, p1⟩
  refine ⟨U, r1, s1, ok1, p1.bind.imp ?_⟩
  rintro y G2 ⟨U2, r2, s2, w, l2, ok2, ry, p2⟩
  cases e : cmpop o1 v w with
  | none => rw [e] at p2; exact p2.elim
  | some c =>
    rw [e] at p2
    refine ⟨U2, v, w, c, ok2.sub, rx.mono l2, ry, e, c, rfl, ?_⟩
    cases c with
    | false => exact p2 U2 _ G2 (Gh.le.refl _) ok2 (mk_bl (C := C) (W := U2))
    | true =>
      refine ⟨U2, r2, s2, ok2, p2.bind.imp ?_⟩
      rintro z G3 ⟨U3, r3, s3, w3, l3, ok3, rz, p3⟩
      obtain ⟨b, e, q⟩ := lift_bl ok3 p3
      exact ⟨U3, w, w3, b, ok3.sub, ry.mono l3, rz, e, q⟩
theorem sAnd {a b : Expr} {rest : List Expr} {ca cb : CE} {pos : Pos} (ha : PE X a (tR C H0 W0 T Wx (evE F ca))) (hb : PE X (.BoolOp .And (b :: rest) pos) (tR C H0 W0 T Wx (evE F cb))) : PE X (.BoolOp .And (a :: b :: rest) pos) (tR C H0 W0 T Wx (evE F (.and ca cb))) := by
  refine (pe_and ha hb).conv ?_
  rintro sg H Q ⟨W, r, s, o, p⟩
  rw [evE] at p
  refine ⟨W, r, s, o, p.bind.imp ?_⟩
  rintro x G ⟨U, r1, s1, v, l1, o1, rx, p1⟩
  cases v with
  | fr xs => exact p1.elim
  | fd xs => exact p1.elim
  | val v =>
    cases v with
    | bl c =>
      refine ⟨c, rep_bl (C := C) (W := U) rx, ?_⟩
      cases c with
      | true => exact ⟨U, r1, s1, o1, p1⟩
      | false => exact p1 U _ G (Gh.le.refl _) o1 (mk_bl (C := C) (W := U))
    | _ => exact p1.elim
theorem sOr {a b : Expr} {rest : List Expr} {ca cb : CE} {pos : Pos} (ha : PE X a (tR C H0 W0 T Wx (evE F ca))) (hb : PE X (.BoolOp .Or (b :: rest) pos) (tR C H0 W0 T Wx (evE F cb))) : PE X (.BoolOp .Or (a :: b :: rest) pos) (tR C H0 W0 T Wx (evE F (.or ca cb))) := by
  refine (pe_or ha hb).conv ?_
  rintro sg H Q ⟨W, r, s, o, p⟩
  rw [evE] at p
  refine ⟨W, r, s, o, p.bind.imp ?_⟩
  rintro x G ⟨U, r1, s1, v, l1, o1, rx, p1⟩
  cases v with
  | fr xs => exact p1.elim
  | fd xs => exact p1.elim
  | val v =>
    cases v with
    | bl c =>
      refine ⟨c, rep_bl (C := C) (W := U) rx, ?_⟩
      cases c with
      | true => exact p1 U _ G (Gh.le.refl _) o1 (mk_bl (C := C) (W := U))
      | false => exact ⟨U, r1, s1, o1, p1⟩
    | _ => exact p1.elim
theorem sNot {a : Expr} {ca : CE} {pos : Pos} (ha : PE X a (tR C H0 W0 T Wx (evE F ca))) : PE X (.UnaryOp .Not a pos) (tR C H0 W0 T Wx (evE F (.not ca))) := by
  refine (pe_not ha).conv ?_
  rintro sg H Q ⟨W, r, s, o, p⟩
  rw [evE] at p
  refine ⟨W, r, s, o, p.bind.imp ?_⟩
  rintro x G ⟨U, r1, s1, v, l1, o1, rx, p1⟩
  cases v with
  | fr xs => exact p1.elim
  | fd xs => exact p1.elim
  | val v =>
    cases v with
    | bl c => exact ⟨c, rep_bl (C := C) (W := U) rx, p1 U _ G (Gh.le.refl _) o1 (mk_bl (C := C) (W := U))⟩
    | _ => exact p1.elim
theorem sIf {c a b : Expr} {cc ca cb : CE} {pos : Pos} (hc : PT X c (tT C H0 W0 T Wx (tb (evE F cc)))) (ha : PE X a (tR C H0 W0 T Wx (evE F ca))) (hb : PE X b (tR C H0 W0 T Wx (evE F cb))) : PE X (.IfExp c a b pos) (tR C H0 W0 T Wx (evE F (.ite cc ca cb))) := by
  refine (pe_ifExp hc ha hb).conv ?_
  rintro sg H Q ⟨W, r, s, o, p⟩
  rw [evE] at p
  refine ⟨W, r, s, o, ?_⟩
  unfold tb
  revert p
  cases h : evE F cc r s with
  | err => intro p; exact p
  | exc e r s => intro p; exact p
  | ok v r1 s1 =>
    intro p
    cases v with
    | fr xs => exact p.elim
    | fd xs => exact p.elim
    | val v =>
      cases v with
      | bl c =>
        intro U x G l o1 e
        subst e
        cases c with
        | true => exact ⟨U, r1, s1, o1, Post.mono l p⟩
        | false => exact ⟨U, r1, s1, o1, Post.mono l p⟩
      | _ => exact p.elim
end
end Gz
namespace Gz
open PySem PySem.Spec PyProof.Rows L2
/-! ### slots -/
section
variable {C : Cn} {H0 H : Hp} {W0 W : Gh} {T : Hid} {r : Rho} {s : Sto} {sg : L2.St}
theorem set_get {a : Type} {l : List (Option a)} {i j : Nat} {v w : Option a} (h : (l.set i v)[j]? = some w) : (i = j ∧ w = v ∧ i < l.length) ∨ (i ≠ j ∧ l[j]? = some w) := by
  by_cases e : i = j
  · subst e
    by_cases hl : i < l.length
    · rw [List.getElem?_set_self hl] at h
      cases h
      exact .inl ⟨rfl, rfl, hl⟩
    · rw [List.getElem?_eq_none (by rw [List.length_set]; omega)] at h
      cases h
  · rw [List.getElem?_set_ne e] at h
    exact .inr ⟨e, h⟩
/-- the hidden lists do not mind slots -/
theorem hidSet (k : Okk C H0 W0 T W r s sg H) {r' : Rho} {sg' : L2.St} (f : ∀ (j : Nat) (sl : Slot), r'[j]? = some (some sl) → sl.held = true → (∃ tl, r[j]? = some (some tl) ∧ tl.held = true ∧ sg'[j]? = sg[j]?) ∨ ∀ p ∈ T, sg'[j]? ≠ some (some (.ref p.1))) :
    ∀ p ∈ T, W.F p.1 = none ∧ p.1 ∉ W.L ∧ H0 p.1 = none ∧ (∃ o, H p.1 = some o ∧ SltR C W p.2 o) ∧ ∀ (i : Nat) (sl : Slot), r'[i]? = some (some sl) → sl.held = true → sg'[i]? ≠ some (some (.ref p.1)) := fun p hp => by
  obtain ⟨h1, h2, h3, h4, h5⟩ := k.hid p hp
  refine ⟨h1, h2, h3, h4, fun i xs q hq0 => ?_⟩
  rcases f i xs q hq0 with ⟨zs, z1, z0, z2⟩ | z
  · rw [z2]; exact h5 i zs z1 z0
  · exact z p hp
/-- a slot takes a value -/
theorem Okk.setV (k : Okk C H0 W0 T W r s sg H) (i : Nat) {v : Val} {x : V} (h : Rep C W v x) : Okk C H0 W0 T W (r.set i (some (.val v))) s (sg.set i (some x)) H := by
  have sl := k.slen
  refine ⟨k.sub, k.len, k.sto, k.nd, fun j u q => ?_, fun j ys q hq0 => ?_, fun j1 j2 xs ys y q1 q2 b1 b2 e1 e2 => ?_, by rw [List.length_set, List.length_set]; exact sl, k.fH, k.fF, k.le, k.fL, fun q hq => hidSet k (fun j ys z hz0 => ?_) q hq, k.hnd⟩
  rotate_right 1
  · rcases set_get z with ⟨rfl, e, _⟩ | ⟨e, z⟩
    · cases e; cases hz0
    · exact .inl ⟨ys, z, hz0, List.getElem?_set_ne e⟩
  · rcases set_get q with ⟨rfl, e, hl⟩ | ⟨e, q⟩
    · cases e
      exact ⟨x, List.getElem?_set_self (by omega), h⟩
    · rw [List.getElem?_set_ne e]
      exact k.val j u q
  · rcases set_get q with ⟨rfl, e, hl⟩ | ⟨e, q⟩
    · cases e; cases hq0
    · rw [List.getElem?_set_ne e]
      exact k.hold j ys q hq0
  · rcases set_get q1 with ⟨rfl, e, _⟩ | ⟨n1, q1⟩
    · cases e; cases b1
    · rcases set_get q2 with ⟨rfl, e, _⟩ | ⟨n2, q2⟩
      · cases e; cases b2
      · rw [List.getElem?_set_ne n1] at e1
        rw [List.getElem?_set_ne n2] at e2
        exact k.apart j1 j2 xs ys y q1 q2 b1 b2 e1 e2
/-- a slot takes a new list -/
theorem Okk.setN (k : Okk C H0 W0 T W r s sg H) (i : Nat) {sl : Slot} {x : V} (hsl : sl.held = true) (h : NewR C H0 T sg W r H sl x) : Okk C H0 W0 T W (r.set i (some sl)) s (sg.set i (some x)) H := by
  have lenE := k.slen
  obtain ⟨a, vs, rfl, h1, h2, h3, h4, h5, h6, h7⟩ := h
  refine ⟨k.sub, k.len, k.sto, k.nd, fun j u q => ?_, fun j ys q hq0 => ?_, fun j1 j2 us ys y q1 q2 b1 b2 e1 e2 => ?_, by rw [List.length_set, List.length_set]; exact lenE, k.fH, k.fF, k.le, k.fL, fun q hq => hidSet k (fun j ys z hz0 => ?_) q hq, k.hnd⟩
  rotate_right 1
  · rcases set_get z with ⟨rfl, e, hl⟩ | ⟨e, z⟩
    · refine .inr fun p hp e2 => ?_
      rw [List.getElem?_set_self (by omega)] at e2
      cases e2
      exact h7 p hp rfl
    · exact .inl ⟨ys, z, hz0, List.getElem?_set_ne e⟩
  · rcases set_get q with ⟨rfl, e, hl⟩ | ⟨e, q⟩
    · cases e; cases hsl
    · rw [List.getElem?_set_ne e]
      exact k.val j u q
  · rcases set_get q with ⟨rfl, e, hl⟩ | ⟨e, q⟩
    · cases e
      exact ⟨a, vs, List.getElem?_set_self (by omega), h1, h2, h3, h4, h5⟩
    · rw [List.getElem?_set_ne e]
      exact k.hold j ys q hq0
  · rcases set_get q1 with ⟨rfl, z1, l1⟩ | ⟨n1, q1⟩
    · rcases set_get q2 with ⟨rfl, z2, l2⟩ | ⟨n2, q2⟩
      · rfl
      · rw [List.getElem?_set_self (by omega)] at e1
        rw [List.getElem?_set_ne n2, ← e1] at e2
        exact absurd e2 (h6 j2 ys q2 b2)
    · rcases set_get q2 with ⟨rfl, z2, l2⟩ | ⟨n2, q2⟩
      · rw [List.getElem?_set_self (by omega)] at e2
        rw [List.getElem?_set_ne n1, ← e2] at e1
        exact absurd e1 (h6 j1 us q1 b1)
      · rw [List.getElem?_set_ne n1] at e1
        rw [List.getElem?_set_ne n2] at e2
        exact k.apart j1 j2 us ys y q1 q2 b1 b2 e1 e2
theorem Okk.setO (k : Okk C H0 W0 T W r s sg H) (i : Nat) {xs : List Val} {x : V} (h : RvR C H0 T sg W r H (.fr xs) x) : Okk C H0 W0 T W (r.set i (some (.own xs))) s (sg.set i (some x)) H :=
  k.setN i rfl ((RvR.new (v := .fr xs) rfl).mp h)
theorem Okk.setR (k : Okk C H0 W0 T W r s sg H) (i : Nat) {v : Rv} {x : V} (h : RvR C H0 T sg W r H v x) : Okk C H0 W0 T W (stV i v r) s (sg.set i (some x)) H := by
  cases v with
  | val v => exact k.setV i h
  | fr xs => exact k.setO i h
  | fd xs => exact k.setN i rfl ((RvR.new (v := .fd xs) rfl).mp h)
/-- a slot is forgotten -/
theorem Okk.drop (k : Okk C H0 W0 T W r s sg H) (i : Nat) : Okk C H0 W0 T W (r.set i none) s sg H := by
  refine ⟨k.sub, k.len, k.sto, k.nd, fun j u q => ?_, fun j ys q hq0 => ?_, fun j1 j2 xs ys y q1 q2 b1 b2 e1 e2 => ?_, by rw [List.length_set]; exact k.slen, k.fH, k.fF, k.le, k.fL, fun q hq => hidSet k (fun j ys z hz0 => ?_) q hq, k.hnd⟩
  rotate_right 1
  · rcases set_get z with ⟨rfl, e, hl⟩ | ⟨e, z⟩
    · cases e
    · exact .inl ⟨ys, z, hz0, rfl⟩
  · rcases set_get q with ⟨rfl, e, hl⟩ | ⟨e, q⟩
    · cases e
    · exact k.val j u q
  · rcases set_get q with ⟨rfl, e, hl⟩ | ⟨e, q⟩
    · cases e
    · exact k.hold j ys q hq0
  · rcases set_get q1 with ⟨rfl, e, _⟩ | ⟨n1, q1⟩
    · cases e
    · rcases set_get q2 with ⟨rfl, e, _⟩ | ⟨n2, q2⟩
      · cases e
      · exact k.apart j1 j2 xs ys y q1 q2 b1 b2 e1 e2
theorem Okk.dropS (k : Okk C H0 W0 T W r s sg H) (i : Nat) (o : Option V) : Okk C H0 W0 T W (r.set i none) s (sg.set i o) H := by
  refine ⟨k.sub, k.len, k.sto, k.nd, fun j u q => ?_, fun j ys q hq0 => ?_, fun j1 j2 xs ys y q1 q2 b1 b2 e1 e2 => ?_, by rw [List.length_set, List.length_set]; exact k.slen, k.fH, k.fF, k.le, k.fL, fun q hq => hidSet k (fun j ys z hz0 => ?_) q hq, k.hnd⟩
  rotate_right 1
  · rcases set_get z with ⟨rfl, e, hl⟩ | ⟨e, z⟩
    · cases e
    · exact .inl ⟨ys, z, hz0, List.getElem?_set_ne e⟩
  · rcases set_get q with ⟨rfl, e, hl⟩ | ⟨e, q⟩
    · cases e
    · rw [List.getElem?_set_ne e]; exact k.val j u q
  · rcases set_get q with ⟨rfl, e, hl⟩ | ⟨e, q⟩
    · cases e
    · rw [List.getElem?_set_ne e]; exact k.hold j ys q hq0
  · rcases set_get q1 with ⟨rfl, e, _⟩ | ⟨n1, q1⟩
    · cases e
    · rcases set_get q2 with ⟨rfl, e, _⟩ | ⟨n2, q2⟩
      · cases e
      · rw [List.getElem?_set_ne n1] at e1
        rw [List.getElem?_set_ne n2] at e2
        exact k.apart j1 j2 xs ys y q1 q2 b1 b2 e1 e2
theorem Okk.wipe (k : Okk C H0 W0 T W r s sg H) : ∀ is, Okk C H0 W0 T W (wipeR r is) s (L2.wipe sg is) H
  | [] => k
  | i :: is => by
    rw [wipeR, L2.wipe]
    exact (Okk.wipe k is).dropS i none
theorem Okk.wipeA (k : Okk C H0 W0 T W r s sg H) : ∀ is, Okk C H0 W0 T W (wipeR r is) s sg H
  | [] => k
  | i :: is => by
    rw [wipeR]
    exact (Okk.wipeA k is).drop i
/-- what a slot holds -/
theorem Okk.heldR (k : Okk C H0 W0 T W r s sg H) {i : Nat} {sl : Slot} (hsl : sl.held = true) (h : r[i]? = some (some sl)) : ∃ x, sg[i]? = some (some x) ∧ NewR C H0 T sg W (r.set i none) H sl x := by
  obtain ⟨a, vs, h1, h2, h3, h4, h5, h6⟩ := k.hold i sl h hsl
  refine ⟨.ref a, h1, a, vs, rfl, h2, h3, h4, h5, h6, fun j ys q b e => ?_, fun p hp e => ?_⟩
  · rcases set_get q with ⟨rfl, z, _⟩ | ⟨n, q⟩
    · cases z
    · exact n (k.apart i j sl ys _ h q hsl b h1 e)
  · exact (k.hid p hp).2.2.2.2 i sl h hsl (by rw [e]; exact h1)
theorem Okk.ownR (k : Okk C H0 W0 T W r s sg H) {i : Nat} {xs : List Val} (h : r[i]? = some (some (.own xs))) : ∃ x, sg[i]? = some (some x) ∧ RvR C H0 T sg W (r.set i none) H (.fr xs) x := by
  obtain ⟨x, h1, h2⟩ := k.heldR rfl h
  exact ⟨x, h1, (RvR.new (v := .fr xs) rfl).mpr h2⟩
theorem Okk.dicR (k : Okk C H0 W0 T W r s sg H) {i : Nat} {xs : List (Key × Val)} (h : r[i]? = some (some (.dic xs))) : ∃ x, sg[i]? = some (some x) ∧ RvR C H0 T sg W (r.set i none) H (.fd xs) x := by
  obtain ⟨x, h1, h2⟩ := k.heldR rfl h
  exact ⟨x, h1, (RvR.new (v := .fd xs) rfl).mpr h2⟩
theorem setSame {sg : L2.St} {i : Nat} {x : V} (hx : sg[i]? = some (some x)) : sg.set i (some x) = sg := by
  have hi : i < sg.length := by
    rcases Nat.lt_or_ge i sg.length with z | z
    · exact z
    · rw [List.getElem?_eq_none z] at hx; cases hx
  apply List.ext_getElem?
  intro j
  by_cases e : i = j
  · subst e
    rw [List.getElem?_set_self hi, hx]
  · rw [List.getElem?_set_ne e]
/-- .. becomes a value -/
theorem Okk.frzS (k : Okk C H0 W0 T W r s sg H) {i : Nat} {xs : List Val} (h : r[i]? = some (some (.own xs))) : ∃ U x, W.le U ∧ sg[i]? = some (some x) ∧ Rep C U (.lst xs) x ∧ Okk C H0 W0 T U (r.set i (some (.val (.lst xs)))) s sg H := by
  obtain ⟨x, hx, hr⟩ := k.ownR h
  obtain ⟨U, l, o, q⟩ := (k.drop i).freeze hr
  refine ⟨U, x, l, hx, q, ?_⟩
  have o2 := o.setV i q
  rw [List.set_set, setSame hx] at o2
  exact o2
theorem Okk.frzD (k : Okk C H0 W0 T W r s sg H) {i : Nat} {xs : List (Key × Val)} (h : r[i]? = some (some (.dic xs))) : ∃ U x, W.le U ∧ sg[i]? = some (some x) ∧ Rep C U (.dct xs) x ∧ Okk C H0 W0 T U (r.set i (some (.val (.dct xs)))) s sg H := by
  obtain ⟨x, hx, hr⟩ := k.dicR h
  obtain ⟨U, l, o, q⟩ := (k.drop i).freezeD hr
  refine ⟨U, x, l, hx, q, ?_⟩
  have o2 := o.setV i q
  rw [List.set_set, setSame hx] at o2
  exact o2
theorem Okk.there (k : Okk C H0 W0 T W r s sg H) {i : Nat} {v : Val} (h : Gz.peek i r = some v) : ∃ x, sg[i]? = some (some x) := by
  unfold Gz.peek at h
  split at h
  · rename_i u q
    obtain ⟨x, h1, h2⟩ := k.val i u q
    exact ⟨x, h1⟩
  · rename_i xs q
    obtain ⟨a, vs, h1, _⟩ := k.own i xs q
    exact ⟨.ref a, h1⟩
  · rename_i xs q
    obtain ⟨a, vs, h1, _⟩ := k.dic i xs q
    exact ⟨.ref a, h1⟩
  · cases h
/-- a look at a slot -/
theorem Okk.peek (k : Okk C H0 W0 T W r s sg H) {i : Nat} {v : Val} (h : (Gz.peek i r).bind (deref · s) = some v) : ∃ x, sg[i]? = some (some x) ∧ RepB C W H v x := by
  unfold Gz.peek at h
  have dr : ∀ {u : Val} {x : V}, Rep C W u x → deref u s = some v → RepB C W H v x := fun {u x} hu e => by
    cases u with
    | loc j =>
      rw [Rep] at hu
      obtain ⟨a, rfl, hj⟩ := hu
      obtain ⟨_, ys, ws, h2, h3, h4⟩ := k.sto j a hj
      have e : (s[j]?).map Val.lst = some v := e
      rw [h2] at e
      cases e
      exact ⟨a, ws, rfl, h3, h4⟩
    | _ => cases e; exact hu.b k.sub
  split at h
  · rename_i u q
    obtain ⟨x, h1, h2⟩ := k.val i u q
    exact ⟨x, h1, dr h2 h⟩
  · rename_i xs q
    cases h
    obtain ⟨a, vs, h1, _, _, _, h5, h6⟩ := k.own i xs q
    exact ⟨.ref a, h1, a, vs, rfl, h5, h6⟩
  · rename_i xs q
    cases h
    obtain ⟨a, vs, h1, _, _, _, h5, h6⟩ := k.dic i xs q
    exact ⟨.ref a, h1, a, vs, rfl, h5, h6⟩
  · cases h
end
/-! ### the context -/
structure Ct where
  N : List Str
  sc : Scope
  top : Bool
  lm : Bool
structure Pr where
  fns : List Str
  exs : List Str
  cs : List (Str × Val)
  bl : List Str
/-- a def's object -/
def FnObj (K : PySem.W.Frag) (mg : Str → Option Value) (x : Str) : Prop := ∃ (fa : Addr) (od : Option Addr) (fd : FuncData) (sl : Array (Option Value)), mg x = some (.ref fa) ∧ K.lookup fa = some ⟨.type "function", od, .func fd, sl⟩ ∧ fd.name = x
structure CxG (C : Cn) (P : Pr) (t : Ct) (k : Nat) (X : Cx) : Prop extends Cg C X where
  hfn : C.fns = P.fns
  hex : C.exs = P.exs
  hN : X.N = t.N
  nd : X.N.Nodup
  hsc : X.env.scope = t.sc
  calm : X.calm = true
  room : Room k X.A
  fn : t.top = true → ∀ x, X.fn x = true
  bl : ∀ x ∈ P.bl, X.mg x = none
  cs : ∀ x v, P.cs.lookup x = some v → ∃ u xv, X.mg x = some u ∧ RelV xv u ∧ ∀ W, Rep C W v xv
  po : PassesOwn (model X.prog X.w) X.A X.env X.xe
  fo : ∀ (f : Nat) (x : Str), C.fns[f]? = some x → FnObj X.K X.mg x
def spF (C : Cn) (F : FT) (f n : Nat) : Sp := fun vs H Q E => vs.length = n ∧ ∃ W s xs, Okk C H W [] W [] s [] H ∧ Reps C W xs vs ∧ match F f xs s with
  | .ok v s' => ∀ U x G, W.le U → Okk C H W [] U [] s' [] G → RvR C H [] [] U [] G v x → Q x G
  | .exc e s' => ∀ U cls d G, W.le U → Okk C H W [] U [] s' [] G → ExR C e cls d → E cls d G
  | .err => False
def FnsOk (C : Cn) (F : FT) (k : Nat) (X : Cx) : Prop := ∀ f x, C.fns[f]? = some x → ∃ fa fd ps, X.mg x = some (.ref fa) ∧ PySem.W.keepIn X.K (.ref fa) = true ∧ Binds X.K fd ps [] ∧ (∀ xs s, F f xs s = .err ∨ xs.length = ps.length) ∧
  FG X.prog X.w X.K X.mg X.base (L2.CX X.prog X.w) k fa fd ps (spF C F f ps.length)
section
variable {C : Cn} {H0 H : Hp} {W0 W U : Gh} {T : Hid} {r : Rho} {s s' : Sto} {sg : L2.St} {G : Hp}
theorem Okk.entry (k : Okk C H0 W0 T W r s sg H) : Okk C H W [] W [] s [] H :=
  ⟨k.sub, k.len, k.sto, k.nd, fun i v q => by simp at q, fun i v q => by simp at q, fun i j xs ys x q => by simp at q, rfl, fun a o q _ => q, fun a o q z => z, Gh.le.refl _, fun a h => .inl h, fun p hp => by simp at hp, List.nodup_nil⟩
/-- behind a call -/
theorem Okk.back (k : Okk C H0 W0 T W r s sg H) (c : Okk C H W [] U [] s' [] G) : Okk C H0 W0 T U r s' sg G := by
  refine ⟨c.sub, c.len, c.sto, c.nd, fun i v q => ?_, fun i xs q hq0 => ?_, k.apart, k.slen, fun a o q hm => ?_, fun a o q z => ?_, k.le.trans c.le, fun a h => ?_, fun p hp => ?_, k.hnd⟩
  · obtain ⟨x, h1, h2⟩ := k.val i v q
    exact ⟨x, h1, h2.mono c.le⟩
  · obtain ⟨a, vs, h1, h2, h3, h4, h5, h6⟩ := k.hold i xs q hq0
    refine ⟨a, vs, h1, c.fF a _ h5 h2, fun hm => ?_, h4, c.fH a _ h5 h3, h6.mono c.le⟩
    rcases c.fL a hm with z | z
    · exact h3 z
    · rw [h5] at z; cases z
  · have h1 := k.fH a o q hm
    refine c.fH a o h1 fun z => ?_
    rcases k.fL a z with z | z
    · exact hm z
    · rw [q] at z; cases z
  · by_cases hm : a ∈ W0.L
    · obtain ⟨i, e⟩ := List.mem_iff_getElem?.mp hm
      exact (c.sto i a ((k.le.trans c.le).1 i a e)).1
    · exact c.fF a o (k.fH a o q hm) (k.fF a o q z)
  · rcases c.fL a h with z | z
    · exact k.fL a z
    · exact .inr (k.hnone z)
  · obtain ⟨h1, h2, h3, ⟨vs, h4, h5⟩, h6⟩ := k.hid p hp
    refine ⟨c.fF _ _ h4 h1, fun hm => ?_, h3, ⟨vs, c.fH _ _ h4 h2, h5.mono c.le⟩, h6⟩
    rcases c.fL _ hm with z | z
    · exact h2 z
    · rw [h4] at z; cases z
theorem RvR.back (k : Okk C H0 W0 T W r s sg H) {v : Rv} {x : V} (h : RvR C H [] [] U [] G v x) : RvR C H0 T sg U r G v x := by
  cases v with
  | val v => exact h
  | fr xs =>
    obtain ⟨a, vs, rfl, h1, h2, h3, h4, h5, _⟩ := h
    refine ⟨a, vs, rfl, h1, h2, k.hnone h3, h4, h5, fun i ys q b0 e => ?_, fun p hp e => ?_⟩
    · obtain ⟨b, ws, g1, _, _, _, g5, _⟩ := k.hold i ys q b0
      rw [g1] at e; cases e
      rw [h3] at g5; cases g5
    · obtain ⟨_, _, _, ⟨vs, g4, _⟩, _⟩ := k.hid p hp
      rw [e, h3] at g4; cases g4
  | fd xs =>
    obtain ⟨a, vs, rfl, h1, h2, h3, h4, h5, _⟩ := h
    refine ⟨a, vs, rfl, h1, h2, k.hnone h3, h4, h5, fun i ys q b0 e => ?_, fun p hp e => ?_⟩
    · obtain ⟨b, ws, g1, _, _, _, g5, _⟩ := k.hold i ys q b0
      rw [g1] at e; cases e
      rw [h3] at g5; cases g5
    · obtain ⟨_, _, _, ⟨vs, g4, _⟩, _⟩ := k.hid p hp
      rw [e, h3] at g4; cases g4
end
/-! ### calls -/
section
variable {X : Cx} {C : CXT} {k : Nat} {f : Addr} {fd : FuncData} {ps : List Str} {sp : Sp} {E : L2.St → XK} {x : Str} {p pos : Pos} {e : Expr} {es : List Expr} {t : TA}
theorem runFG {pins : List (Addr × Obj)} {sg : L2.St} {H : Hp} {s : Shared} {Q : VK} {us : List Value} {vs : List V} (F : FG X.prog X.w X.K X.mg X.base C k f fd ps sp) (hg : X.A.guards = some []) (hr : Room k X.A) (hb : Binds X.K fd ps []) (hx : PassesAt C X sg (E sg))
    (I : Inv X pins sg H s) (r : Vals vs us) (h : sp vs H Q (E sg)) : wpAny (model X.prog X.w) X.A (call (.ref f) us) (EP X pins sg Q) X.xe s := by
  have hl : us.length = ps.length := r.length.symm.trans (F.len _ _ _ _ h)
  have b := hb s us I.kIn (by rw [List.append_nil]; exact hl)
  rw [List.append_nil] at b
  refine wpAny_call (codeAny_mono (F.run X.A X.stack s H ⟨us, []⟩ us vs Q (E sg) hg hr I.env0 b r h) ?_)
  intro r s' hq
  cases r with
  | error e => exact hx pins H s e s' I hq
  | ok fl =>
    cases fl with
    | ret u => exact I.after hq
    | next => exact hq.elim
    | brk => exact hq.elim
    | cont => exact hq.elim
theorem peFG (F : FG X.prog X.w X.K X.mg X.base C k f fd ps sp) (hgd : X.A.guards = some []) (hr : Room k X.A) (hg : Gl X x) (hm : X.mg x = some (.ref f)) (hk : PySem.W.keepIn X.K (.ref f) = true) (hb : Binds X.K fd ps []) (hx : ∀ sg, PassesAt C X sg (E sg))
    (ha : PA X (e :: es) t) (hdb : (x == ("__debug__" : Str)) = false) (he : starEach (e :: es) X.env = (false, eval e X.env) :: starEach es X.env) (hpl : (backTo pos (starEach es X.env)).any (·.1) = false) :
    PE X (.Call (.Name x p) (e :: es) [] pos) (fun sg H Q => t sg H fun vs G => sp vs G Q (E sg)) := by
  constructor
  intro pins s sg H Q I h
  refine wpAny_Call_Name_kw (ld_glob I hg hm ?_ hdb)
  refine PySem.W.callWith_K (h₀ := X.base) I.ok.mod.kin hk (thn (ha.run pos pins s sg H _ I h) ?_) he hpl
  rintro us s1 ⟨vs, H1, I1, r, q⟩
  exact ⟨I1.kIn, runFG F hgd hr hb (hx sg) I1 r q⟩
theorem peFG0 (F : FG X.prog X.w X.K X.mg X.base C k f fd ps sp) (hgd : X.A.guards = some []) (hr : Room k X.A) (hg : Gl X x) (hm : X.mg x = some (.ref f)) (hk : PySem.W.keepIn X.K (.ref f) = true) (hb : Binds X.K fd ps []) (hx : ∀ sg, PassesAt C X sg (E sg))
    (hdb : (x == ("__debug__" : Str)) = false) : PE X (.Call (.Name x p) [] [] pos) (fun sg H Q => sp [] H Q (E sg)) := by
  constructor
  intro pins s sg H Q I h
  refine wpAny_Call_Name_kw (ld_glob I hg hm ?_ hdb)
  exact PySem.W.callWith_K0 I.kIn hk (runFG (us := []) F hgd hr hb (hx sg) I .nil h)
end
end Gz
namespace Gz
open PySem PySem.Spec PyProof.Rows L2
section
variable {C : Cn} {H0 : Hp} {W0 : Gh} {T : Hid} {Wx : WX} {X : Cx} {F : FT} {k : Nat} {P : Pr} {t : Ct}
theorem sVar {i : Nat} {x : Str} {pos : Pos} (hN : X.N[i]? = some x) (hv : Vis X.env.scope x) (hd : (x == ("__debug__" : Str)) = false) (hcd : (x == ("__classdict__" : Str)) = false) : PE X (.Name x pos) (tR C H0 W0 T Wx (evE F (.var i))) := by
  refine (pe_var hN hv hd hcd).conv ?_
  rintro sg H Q ⟨W, r, s, o, p⟩
  rw [evE] at p
  unfold rdVar at p
  split at p
  · rename_i v q
    obtain ⟨y, h1, h2⟩ := o.val i v q
    exact ⟨y, h1, p W y H (Gh.le.refl _) o h2⟩
  · rename_i xs q
    obtain ⟨U, y, l, h1, h2, o2⟩ := o.frzS q
    exact ⟨y, h1, p U y H l o2 h2⟩
  · rename_i xs q
    obtain ⟨U, y, l, h1, h2, o2⟩ := o.frzD q
    exact ⟨y, h1, p U y H l o2 h2⟩
  · exact p.elim
theorem sCst {e : Expr} {v : Val} {y : V} (h : PE X e (tC y)) (hr : ∀ W, Rep C W v y) : PE X e (tR C H0 W0 T Wx (evE F (.cst v))) := by
  refine h.conv ?_
  rintro sg H Q ⟨W, r, s, o, p⟩
  rw [evE] at p
  exact p W y H (Gh.le.refl _) o (hr W)
theorem sNil : PA X [] (tA C H0 W0 T Wx (evA F .nil)) := by
  refine pa_nil.conv ?_
  rintro sg H Q ⟨W, r, s, o, p⟩
  rw [evA] at p
  exact p W [] H (Gh.le.refl _) o .nil
theorem sCons {e : Expr} {es : List Expr} {c : CE} {cs : CEs} (he : PE X e (tR C H0 W0 T Wx (evE F c))) (hs : PA X es (tA C H0 W0 T Wx (evA F cs))) (hst : starEach (e :: es) X.env = (false, eval e X.env) :: starEach es X.env) :
    PA X (e :: es) (tA C H0 W0 T Wx (evA F (.cons c cs))) := by
  refine (pa_cons (peV he) hs hst).conv ?_
  rintro sg H Q ⟨W, r, s, o, p⟩
  rw [evA] at p
  refine ⟨W, r, s, o, p.bind.imp ?_⟩
  rintro x G ⟨U, r1, s1, v, l1, o1, rx, p1⟩
  refine ⟨U, r1, s1, o1, p1.bind.imp ?_⟩
  rintro y G2 ⟨U2, r2, s2, w, l2, o2, ry, p2⟩
  exact p2 U2 _ G2 (Gh.le.refl _) o2 (Reps.cons (Rep.mono l2 rx) ry)
theorem sTup {es : List Expr} {cs : CEs} {n : Nat} {pos : Pos} (hs : PA X es (tA C H0 W0 T Wx (evA F cs))) : PE X (.Tuple es n pos) (tR C H0 W0 T Wx (evE F (.tup cs))) := by
  refine (peTup hs).conv ?_
  rintro sg H Q ⟨W, r, s, o, p⟩
  rw [evE] at p
  refine ⟨W, r, s, o, p.bind.imp ?_⟩
  rintro x G ⟨U, r1, s1, v, l1, o1, rx, p1⟩
  have rx : Reps C U v x := rx
  split at p1
  · rename_i hz
    refine ⟨by rw [← rx.length]; exact hz, fun q us nq _ => ?_⟩
    exact (gives_of o1 p1).tup (o1.fnone nq) nq rx
  · exact p1.elim
theorem sLst {es : List Expr} {cs : CEs} {pos : Pos} (hs : PA X es (tA C H0 W0 T Wx (evA F cs))) : PE X (.List es pos) (tR C H0 W0 T Wx (evE F (.lst cs))) := by
  refine (pe_lst hs).conv ?_
  rintro sg H Q ⟨W, r, s, o, p⟩
  rw [evE] at p
  refine ⟨W, r, s, o, p.bind.imp ?_⟩
  rintro x G ⟨U, r1, s1, v, l1, o1, rx, p1⟩
  have rx : Reps C U v x := rx
  split at p1
  · rename_i hz
    exact ⟨by rw [← rx.length]; exact hz, fun q nq => gives_of o1 p1 q x nq rx⟩
  · exact p1.elim
/-- a new list of the store -/
theorem Okk.newLoc {H : Hp} {W : Gh} {r : Rho} {s : Sto} {sg : L2.St} (o : Okk C H0 W0 T W r s sg H) {p : Addr} (np : H p = none) {xs : List Val} {vs : List V} (h : Reps C W xs vs) :
    W.le ⟨W.L ++ [p], W.F⟩ ∧ Okk C H0 W0 T ⟨W.L ++ [p], W.F⟩ r (s ++ [xs]) sg (upd H p (.lst vs)) ∧ Rep C ⟨W.L ++ [p], W.F⟩ (.loc s.length) (.ref p) := by
  have hle : W.le ⟨W.L ++ [p], W.F⟩ := ⟨fun i a q => by
    have : i < W.L.length := by
      rcases Nat.lt_or_ge i W.L.length with z | z
      · exact z
      · rw [List.getElem?_eq_none z] at q; cases q
    rw [List.getElem?_append_left this]; exact q, fun _ _ q => q⟩
  have ol := o.len
  have k := o.newL np (.lst vs)
  refine ⟨hle, ⟨k.sub, ?_, fun i a q => ?_, ?_, fun i v q => ?_, fun i ys q hq0 => ?_, o.apart, o.slen, k.fH, k.fF, k.le.trans hle, fun a hm => ?_, fun q hq => ?_, k.hnd⟩, ?_⟩
  · rw [List.length_append, List.length_append, ol]; rfl
  · rcases Nat.lt_or_ge i W.L.length with z | z
    · have q : (W.L ++ [p])[i]? = some a := q
      rw [List.getElem?_append_left z] at q
      obtain ⟨h1, ys, ws, h2, h3, h4⟩ := k.sto i a q
      exact ⟨h1, ys, ws, by rw [List.getElem?_append_left (by omega)]; exact h2, h3, h4.mono hle⟩
    · have q : (W.L ++ [p])[i]? = some a := q
      rw [List.getElem?_append_right z] at q
      have e : i - W.L.length = 0 := by
        cases h0 : i - W.L.length with
        | zero => rfl
        | succ n => rw [h0] at q; cases q
      rw [e] at q
      cases q
      refine ⟨o.fnone np, xs, vs, ?_, upd_same, h.mono hle⟩
      rw [List.getElem?_append_right (by omega)]
      have : i - s.length = 0 := by omega
      rw [this]; rfl
  · rw [List.nodup_append]
    refine ⟨o.nd, by simp, fun a ha b hb => ?_⟩
    rw [List.mem_singleton] at hb
    subst hb
    exact fun e => o.lnone np (e ▸ ha)
  · obtain ⟨x, h1, h2⟩ := o.val i v q
    exact ⟨x, h1, h2.mono hle⟩
  · obtain ⟨a, ws, h1, h2, h3, h4, h5, h6⟩ := o.hold i ys q hq0
    refine ⟨a, ws, h1, h2, ?_, h4, by rw [upd_ne (ne_of_none h5 np)]; exact h5, h6.mono hle⟩
    intro hm
    rcases List.mem_append.mp hm with z | z
    · exact h3 z
    · rw [List.mem_singleton] at z
      subst z
      rw [np] at h5; cases h5
  · rcases List.mem_append.mp hm with z | z
    · exact o.fL a z
    · rw [List.mem_singleton] at z
      subst z
      exact .inr (o.hnone np)
  · obtain ⟨h1, h2, h3, ⟨ws, h4, h5⟩, h6⟩ := k.hid q hq
    refine ⟨h1, fun hm => ?_, h3, ⟨ws, h4, h5.mono hle⟩, h6⟩
    rcases List.mem_append.mp hm with z | z
    · exact h2 z
    · rw [List.mem_singleton] at z
      obtain ⟨_, _, _, ⟨us, g4, _⟩, _⟩ := o.hid q hq
      rw [z, np] at g4; cases g4
  · rw [Rep]
    refine ⟨p, rfl, ?_⟩
    show (W.L ++ [p])[s.length]? = some p
    rw [ol, List.getElem?_append_right (Nat.le_refl _), Nat.sub_self]; rfl
theorem sLstL {es : List Expr} {cs : CEs} {pos : Pos} (hs : PA X es (tA C H0 W0 T Wx (evA F cs))) : PE X (.List es pos) (tR C H0 W0 T Wx (evE F (.lstL cs))) := by
  refine (pe_lst hs).conv ?_
  rintro sg H Q ⟨W, r, s, o, p⟩
  rw [evE] at p
  refine ⟨W, r, s, o, p.bind.imp ?_⟩
  rintro x G ⟨U, r1, s1, v, l1, o1, rx, p1⟩
  have rx : Reps C U v x := rx
  split at p1
  · rename_i hz
    refine ⟨by rw [← rx.length]; exact hz, fun q nq => ?_⟩
    obtain ⟨l2, o2, r2⟩ := o1.newLoc nq rx
    exact p1 _ _ _ l2 o2 r2
  · exact p1.elim
theorem sDct0 {pos : Pos} : PE X (.Dict [] [] pos) (tR C H0 W0 T Wx (evE F (.dct []))) := by
  refine pe_dnewK.conv ?_
  rintro sg H Q ⟨W, r, s, o, p⟩
  rw [evE] at p
  intro q nq
  exact p W _ _ (Gh.le.refl _) (o.newL nq _) (o.newRD nq (by rw [RepK]))
theorem sDct1 {i j : Int} {k1 k2 : Nat} {p1 p2 pos : Pos} : PE X (.Dict [some (.Constant (.int i) k1 p1)] [.Constant (.int j) k2 p2] pos) (tR C H0 W0 T Wx (evE F (.dct [(.inl i, .int j)]))) := by
  refine (pe_disp (pps_cons pe_int pe_int pps_nil) rfl rfl (fun z => by cases z) (by show 1 ≤ 15; decide)).conv ?_
  rintro sg H Q ⟨W, r, s, o, p⟩
  rw [evE] at p
  intro q nq
  refine ⟨upd_same, [(.inl i, .int j)], rfl, (by show 1 ≤ 15; decide), ?_⟩
  rw [upd_upd]
  refine p W _ _ (Gh.le.refl _) (o.newL nq _) (o.newRD nq ?_)
  rw [RepK]
  exact ⟨.int j, [], rfl, mk_int, by rw [RepK]⟩
/-! ### calls -/
theorem callP {f n : Nat} {sg : L2.St} {G : Hp} {U : Gh} {r : Rho} {s : Sto} {v : List Val} {y : List V} {Q : VK} (hl : ∀ xs s, F f xs s = .err ∨ xs.length = n) (o : Okk C H0 W0 T U r s sg G) (rx : Reps C U v y)
    (p : Post C H0 W0 T Wx sg (RvR C H0 T sg) U Q (match F f v s with
      | .ok v s => .ok v r s
      | .exc e s => .exc e r s
      | .err => .err)) : spF C F f n y G Q (WE Wx sg) := by
  have hn : v.length = n := by
    rcases hl v s with h | h
    · rw [h] at p; exact p.elim
    · exact h
  refine ⟨by rw [← rx.length]; exact hn, U, s, v, o.entry, rx, ?_⟩
  revert p
  cases F f v s with
  | err => exact fun p => p
  | exc e s' => exact fun p V cls d G2 l c x => p V cls d G2 l (o.back c) x
  | ok w s' => exact fun p V x G2 l c q => p V x G2 l (o.back c) (RvR.back o q)
theorem sCall (g : CxG C P t k X) (tk : Takes X Wx) (fo : FnsOk C F k X) {f : Nat} {x : Str} {e : Expr} {es : List Expr} {cs : CEs} {p0 pos : Pos} (hf : C.fns[f]? = some x) (hg : Gl X x) (hdb : (x == ("__debug__" : Str)) = false)
    (ha : PA X (e :: es) (tA C H0 W0 T Wx (evA F cs))) (he : starEach (e :: es) X.env = (false, eval e X.env) :: starEach es X.env) (hpl : (backTo pos (starEach es X.env)).any (·.1) = false) :
    PE X (.Call (.Name x p0) (e :: es) [] pos) (tR C H0 W0 T Wx (evE F (.call f cs))) := by
  obtain ⟨fa, fd, ps, h1, h2, h3, hl, h4⟩ := fo f x hf
  refine (peFG (E := WE Wx) h4 g.gd g.room hg h1 h2 h3 (fun sg => passAt tk sg) ha hdb he hpl).conv ?_
  rintro sg H Q ⟨W, r, s, o, p⟩
  rw [evE] at p
  refine ⟨W, r, s, o, p.bind.imp ?_⟩
  rintro y G ⟨U, r1, s1, v, l1, o1, rx, p1⟩
  exact callP hl o1 rx p1
theorem sCall0 (g : CxG C P t k X) (tk : Takes X Wx) (fo : FnsOk C F k X) {f : Nat} {x : Str} {p0 pos : Pos} (hf : C.fns[f]? = some x) (hg : Gl X x) (hdb : (x == ("__debug__" : Str)) = false) :
    PE X (.Call (.Name x p0) [] [] pos) (tR C H0 W0 T Wx (evE F (.call f .nil))) := by
  obtain ⟨fa, fd, ps, h1, h2, h3, hl, h4⟩ := fo f x hf
  refine (peFG0 (E := WE Wx) h4 g.gd g.room hg h1 h2 h3 (fun sg => passAt tk sg) hdb).conv ?_
  rintro sg H Q ⟨W, r, s, o, p⟩
  rw [evE, evA] at p
  exact callP hl o .nil p
/-! ### built-ins -/
def bfNm : Bf → Str
  | .len => "len"
  | .tuple => "tuple"
  | .list => "list"
  | .sorted => "sorted"
  | .all => "all"
  | .any => "any"
  | .sum => "sum"
  | .repr => "repr"
  | .max2 => "max"
  | .min2 => "min"
  | .str => "str"
  | .abs => "abs"
  | .max1 => "max"
  | .min1 => "min"
theorem boot_bf (f : Bf) : bootBuiltins (bfNm f) = some (bfFn f) := by cases f <;> decide +kernel
theorem peBlt (g : CxG C P t k X) {f : Bf} {e : Expr} {es : List Expr} {ta : TA} {p0 pos : Pos} (hb : bfNm f ∈ P.bl) (hg : Gl X (bfNm f)) (ha : PA X (e :: es) ta) (he : starEach (e :: es) X.env = (false, eval e X.env) :: starEach es X.env) (hpl : (backTo pos (starEach es X.env)).any (·.1) = false) :
    PE X (.Call (.Name (bfNm f) p0) (e :: es) [] pos) (tCB (rBlt C f) ta) := by
  have hm := g.bl _ hb
  have cr := crBlt g.toCg g.calm f
  have hv := boot_bf f
  cases f <;> first
    | exact pe_callB cr hg hm hv ha (by decide) (by decide) he hpl
    | exact pe_callTy cr hg hm hv ha (by decide) (by decide) he hpl
theorem sBlt (g : CxG C P t k X) {f : Bf} {e : Expr} {es : List Expr} {cs : CEs} {p0 pos : Pos} (hb : bfNm f ∈ P.bl) (hg : Gl X (bfNm f)) (ha : PA X (e :: es) (tA C H0 W0 T Wx (evA F cs))) (he : starEach (e :: es) X.env = (false, eval e X.env) :: starEach es X.env) (hpl : (backTo pos (starEach es X.env)).any (·.1) = false) :
    PE X (.Call (.Name (bfNm f) p0) (e :: es) [] pos) (tR C H0 W0 T Wx (evE F (.blt f cs))) := by
  refine (peBlt g hb hg ha he hpl).conv ?_
  rintro sg H Q ⟨W, r, s, o, p⟩
  rw [evE] at p
  refine ⟨W, r, s, o, p.bind.imp ?_⟩
  rintro y G ⟨U, r1, s1, v, l1, o1, rx, p1⟩
  obtain ⟨u, e, gv⟩ := lift_gives o1 p1
  exact ⟨U, v, u, o1.sub, Reps.b o1.sub rx, e, gv⟩
theorem sBltV (g : CxG C P t k X) {f : Bf} {i : Nat} {x : Str} {p0 p1 pos : Pos} (hb : bfNm f ∈ P.bl) (hg : Gl X (bfNm f)) (hN : X.N[i]? = some x) (hv : Vis X.env.scope x) (hd : (x == ("__debug__" : Str)) = false) (hcd : (x == ("__classdict__" : Str)) = false) :
    PE X (.Call (.Name (bfNm f) p0) [.Name x p1] [] pos) (tR C H0 W0 T Wx (evE F (.bltV f i))) := by
  refine (peBlt g hb hg (pa_cons (pe_var hN hv hd hcd) pa_nil) rfl rfl).conv ?_
  rintro sg H Q ⟨W, r, s, o, p⟩
  rw [evE] at p
  split at p
  · rename_i v e
    obtain ⟨y, h1, h2⟩ := o.peek e
    obtain ⟨u, e2, gv⟩ := lift_gives o p
    exact ⟨y, h1, W, [v], u, o.sub, ⟨y, [], rfl, h2, rfl⟩, e2, gv⟩
  · exact p.elim
theorem boot_isi : bootBuiltins "isinstance" = some (.builtin "isinstance") := by decide +kernel
theorem boot_ty (n : String) (h : tyOk n = true) : bootBuiltins (Str.ofString n) = some (.type n) := by
  simp only [tyOk, Bool.or_eq_true, beq_iff_eq] at h
  rcases h with ((((rfl | rfl) | rfl) | rfl) | rfl) | rfl <;> decide +kernel
theorem ty_ne (n : String) (h : tyOk n = true) : Str.ofString n ≠ "__name__" ∧ (Str.ofString n == ("__debug__" : Str)) = false := by
  simp only [tyOk, Bool.or_eq_true, beq_iff_eq] at h
  rcases h with ((((rfl | rfl) | rfl) | rfl) | rfl) | rfl <;> decide +kernel
theorem peIsi (g : CxG C P t k X) {e : Expr} {te : TE} {n : String} {p0 p1 pos : Pos} (hn : tyOk n = true) (hb : ("isinstance" : Str) ∈ P.bl) (hb2 : Str.ofString n ∈ P.bl) (hg : Gl X "isinstance") (hg2 : Gl X (Str.ofString n)) (he : PE X e te) (hst : starEach [e, .Name (Str.ofString n) p1] X.env = (false, eval e X.env) :: starEach [.Name (Str.ofString n) p1] X.env) :
    PE X (.Call (.Name "isinstance" p0) [e, .Name (Str.ofString n) p1] [] pos) (fun sg H Q => te sg H fun x G => ∃ W v y t b, [x, V.ty n] = [y, V.ty t] ∧ tyOk t = true ∧ Sub W G ∧ RepB C W G v y ∧ isiv v t = some b ∧ Q (.bl b) G) := by
  have h2 : PE X (.Name (Str.ofString n) p1) (tC (.ty n)) := pe_bltn hg2 (g.bl _ hb2) (boot_ty n hn) (by rfl) (ty_ne n hn).1 (ty_ne n hn).2
  exact pe_callB (crIsi g.toCg) hg (g.bl _ hb) boot_isi (pa_cons he (pa_cons h2 pa_nil rfl) hst) (by decide) (by decide) hst rfl
theorem sIsi (g : CxG C P t k X) {e : Expr} {ce : CE} {n : String} {p0 p1 pos : Pos} (hn : tyOk n = true) (hb : ("isinstance" : Str) ∈ P.bl) (hb2 : Str.ofString n ∈ P.bl) (hg : Gl X "isinstance") (hg2 : Gl X (Str.ofString n)) (he : PE X e (tR C H0 W0 T Wx (evE F ce))) (hst : starEach [e, .Name (Str.ofString n) p1] X.env = (false, eval e X.env) :: starEach [.Name (Str.ofString n) p1] X.env) :
    PE X (.Call (.Name "isinstance" p0) [e, .Name (Str.ofString n) p1] [] pos) (tR C H0 W0 T Wx (evE F (.isi ce n))) := by
  refine (peIsi g hn hb hb2 hg hg2 (peV he) hst).conv ?_
  rintro sg H Q ⟨W, r, s, o, p⟩
  rw [evE] at p
  refine ⟨W, r, s, o, p.bind.imp ?_⟩
  rintro y G ⟨U, r1, s1, v, l1, o1, rx, p1⟩
  obtain ⟨b, e, q⟩ := lift_bl o1 p1
  exact ⟨U, v, y, n, b, rfl, hn, o1.sub, Rep.b o1.sub rx, e, q⟩
theorem sIsiV (g : CxG C P t k X) {i : Nat} {x : Str} {n : String} {p0 p1 p2 pos : Pos} (hn : tyOk n = true) (hb : ("isinstance" : Str) ∈ P.bl) (hb2 : Str.ofString n ∈ P.bl) (hg : Gl X "isinstance") (hg2 : Gl X (Str.ofString n))
    (hN : X.N[i]? = some x) (hv : Vis X.env.scope x) (hd : (x == ("__debug__" : Str)) = false) (hcd : (x == ("__classdict__" : Str)) = false) :
    PE X (.Call (.Name "isinstance" p0) [.Name x p2, .Name (Str.ofString n) p1] [] pos) (tR C H0 W0 T Wx (evE F (.isiV i n))) := by
  refine (peIsi g hn hb hb2 hg hg2 (pe_var hN hv hd hcd) rfl).conv ?_
  rintro sg H Q ⟨W, r, s, o, p⟩
  rw [evE] at p
  split at p
  · rename_i v e
    obtain ⟨y, h1, h2⟩ := o.peek e
    obtain ⟨b, e2, q⟩ := lift_bl o p
    exact ⟨y, h1, W, v, y, n, b, rfl, hn, o.sub, h2, e2, q⟩
  · exact p.elim
/-! ### items, slices -/
theorem sIdx (g : Cg C X) {a b : Expr} {ca cb : CE} {pos : Pos} (ha : PE X a (tR C H0 W0 T Wx (evE F ca))) (hb : PE X b (tR C H0 W0 T Wx (evE F cb))) (hs : PlainIx b) : PE X (.Subscript a b pos) (tR C H0 W0 T Wx (evE F (.idx ca cb))) := by
  refine (pe_ix (ixAll g) (peV ha) (peV hb) hs).conv ?_
  rintro sg H Q ⟨W, r, s, o, p⟩
  rw [evE] at p
  refine ⟨W, r, s, o, p.bind.imp ?_⟩
  rintro x G ⟨U, r1, s1, v, l1, o1, rx, p1⟩
  refine ⟨U, r1, s1, o1, p1.bind.imp ?_⟩
  rintro y G2 ⟨U2, r2, s2, w, l2, o2, ry, p2⟩
  obtain ⟨z, e, q⟩ := lift_val o2 p2
  exact ⟨U2, v, w, z, o2.sub, (Rep.mono l2 rx).b o2.sub, ry, e, q⟩
theorem sIdxV (g : Cg C X) {i : Nat} {x : Str} {b : Expr} {cb : CE} {p1 pos : Pos} (hN : X.N[i]? = some x) (hv : Vis X.env.scope x) (hd : (x == ("__debug__" : Str)) = false) (hcd : (x == ("__classdict__" : Str)) = false) (hb : PE X b (tR C H0 W0 T Wx (evE F cb))) (hs : PlainIx b) :
    PE X (.Subscript (.Name x p1) b pos) (tR C H0 W0 T Wx (evE F (.idxV i cb))) := by
  refine (pe_ix (ixAll g) (pe_var hN hv hd hcd) (peV hb) hs).conv ?_
  rintro sg H Q ⟨W, r, s, o, p⟩
  rw [evE] at p
  by_cases hp : (peek i r).isSome = true
  · rw [if_pos hp] at p
    obtain ⟨v0, e0⟩ := Option.isSome_iff_exists.mp hp
    obtain ⟨y, hy⟩ := o.there e0
    refine ⟨y, hy, W, r, s, o, p.bind.imp ?_⟩
    rintro z G ⟨U, r1, s1, w, l1, o1, rz, p1⟩
    split at p1
    · rename_i v e
      obtain ⟨y2, h1, h2⟩ := o1.peek e
      rw [hy] at h1
      cases h1
      obtain ⟨u, e2, q⟩ := lift_val o1 p1
      exact ⟨U, v, w, u, o1.sub, h2, rz, e2, q⟩
    · exact p1.elim
  · rw [if_neg hp] at p
    exact p.elim
theorem inVP {ng : Bool} {i : Nat} {ca : CE} {W : Gh} {r : Rho} {s : Sto} {H : Hp} {Q : VK} (o : Okk C H0 W0 T W r s sg H) (p : Post C H0 W0 T Wx sg (RvR C H0 T sg) W Q (evE F (.inV ng ca i) r s)) :
    ∃ y, sg[i]? = some (some y) ∧ Post C H0 W0 T Wx sg (VR C) W (fun x G => ∃ U v w b, Sub U G ∧ Rep C U v x ∧ RepB C U G w y ∧ isin v w = some b ∧ Q (.bl (if ng then !b else b)) G) (frz (evE F ca r s)) := by
  rw [evE] at p
  by_cases hp : (peek i r).isSome = true
  · rw [if_pos hp] at p
    obtain ⟨v0, e0⟩ := Option.isSome_iff_exists.mp hp
    obtain ⟨y, hy⟩ := o.there e0
    refine ⟨y, hy, p.bind.imp ?_⟩
    rintro z G ⟨U, r1, s1, w, l1, o1, rz, p1⟩
    split at p1
    · rename_i v e
      obtain ⟨y2, h1, h2⟩ := o1.peek e
      rw [hy] at h1
      cases h1
      cases e2 : isin w v with
      | none => rw [e2] at p1; exact p1.elim
      | some b =>
        rw [e2] at p1
        exact ⟨U, w, v, b, o1.sub, rz, h2, e2, p1 U _ G (Gh.le.refl _) o1 (mk_bl (C := C) (W := U))⟩
    · exact p1.elim
  · rw [if_neg hp] at p
    exact p.elim
theorem sInV (g : Cg C X) {ng : Bool} {i : Nat} {x : Str} {a : Expr} {ca : CE} {p1 pos : Pos} (hN : X.N[i]? = some x) (hv : Vis X.env.scope x) (hd : (x == ("__debug__" : Str)) = false) (hcd : (x == ("__classdict__" : Str)) = false) (ha : PE X a (tR C H0 W0 T Wx (evE F ca))) :
    PE X (.Compare a [if ng then .NotIn else .In] [.Name x p1] pos) (tR C H0 W0 T Wx (evE F (.inV ng ca i))) := by
  refine (pe_cmpR (opInB g ng) (peV ha) (pe_var hN hv hd hcd) (by cases ng <;> rfl)).conv ?_
  rintro sg H Q ⟨W, r, s, o, p⟩
  obtain ⟨y, hy, p⟩ := inVP o p
  exact ⟨W, r, s, o, p.imp fun x G h => ⟨y, hy, h⟩⟩
theorem sInVT (g : Cg C X) {ng : Bool} {i : Nat} {x : Str} {a : Expr} {ca : CE} {p1 pos : Pos} (hN : X.N[i]? = some x) (hv : Vis X.env.scope x) (hd : (x == ("__debug__" : Str)) = false) (hcd : (x == ("__classdict__" : Str)) = false) (ha : PE X a (tR C H0 W0 T Wx (evE F ca))) :
    PT X (.Compare a [if ng then .NotIn else .In] [.Name x p1] pos) (tT C H0 W0 T Wx (tb (evE F (.inV ng ca i)))) := by
  refine (pt_cmpR (opInB g ng) (peV ha) (pe_var hN hv hd hcd) (by cases ng <;> rfl)).conv ?_
  rintro sg H Q ⟨W, r, s, o, p⟩
  obtain ⟨y, hy, p⟩ := inVP o (tb_post p)
  exact ⟨W, r, s, o, p.imp fun x G h => ⟨y, hy, h⟩⟩
def coX : CO → Option CE
  | .no => none
  | .so e => some e
theorem sNo : PO X none (tO C H0 W0 T Wx (evO F .no)) := by
  refine po_none.conv ?_
  rintro sg H Q ⟨W, r, s, o, p⟩
  rw [evO] at p
  exact p W none H (Gh.le.refl _) o rfl
theorem sSo {e : Expr} {c : CE} (h : PE X e (tR C H0 W0 T Wx (evE F c))) : PO X (some e) (tO C H0 W0 T Wx (evO F (.so c))) := by
  refine (po_some (peV h)).conv ?_
  rintro sg H Q ⟨W, r, s, o, p⟩
  rw [evO] at p
  refine ⟨W, r, s, o, p.bind.imp ?_⟩
  rintro x G ⟨U, r1, s1, v, l1, o1, rx, p1⟩
  cases v with
  | int i => exact ⟨i, rep_int (C := C) (W := U) rx, p1 U _ G (Gh.le.refl _) o1 rfl⟩
  | _ => exact p1.elim
theorem sSlc (g : Cg C X) {a : Expr} {lo hi : Option Expr} {ca : CE} {cl ch : CO} {p2 pos : Pos} (ha : PE X a (tR C H0 W0 T Wx (evE F ca))) (hl : PO X lo (tO C H0 W0 T Wx (evO F cl))) (hh : PO X hi (tO C H0 W0 T Wx (evO F ch))) :
    PE X (.Subscript a (.Slice lo hi none p2) pos) (tR C H0 W0 T Wx (evE F (.slc ca cl ch))) := by
  refine (pe_slice (slAll g) (peV ha) hl hh).conv ?_
  rintro sg H Q ⟨W, r, s, o, p⟩
  rw [evE] at p
  refine ⟨W, r, s, o, p.bind.imp ?_⟩
  rintro x G ⟨U, r1, s1, v, l1, o1, rx, p1⟩
  refine ⟨U, r1, s1, o1, p1.bind.imp ?_⟩
  rintro y G2 ⟨U2, r2, s2, w, l2, o2, rfl, p2⟩
  refine ⟨U2, r2, s2, o2, p2.bind.imp ?_⟩
  rintro z G3 ⟨U3, r3, s3, w3, l3, o3, rfl, p3⟩
  obtain ⟨u, e, gv⟩ := lift_gives o3 p3
  exact ⟨U3, v, u, o3.sub, Rep.mono (l2.trans l3) rx, e, gv⟩
theorem sRev (g : Cg C X) {a : Expr} {ca : CE} {n : Nat} {p1 p2 p3 pos : Pos} (ha : PE X a (tR C H0 W0 T Wx (evE F ca))) : PE X (.Subscript a (.Slice none none (some (.UnaryOp .USub (.Constant (.int 1) n p1) p2)) p3) pos) (tR C H0 W0 T Wx (evE F (.rev ca))) := by
  refine (peRev g (peV ha)).conv ?_
  rintro sg H Q ⟨W, r, s, o, p⟩
  rw [evE] at p
  refine ⟨W, r, s, o, p.bind.imp ?_⟩
  rintro x G ⟨U, r1, s1, v, l1, o1, rx, p1⟩
  obtain ⟨u, e, gv⟩ := lift_gives o1 p1
  exact ⟨U, v, u, o1.sub, rx, e, gv⟩
end
end Gz
namespace Gz
open PySem PySem.Spec PyProof.Rows L2
section
variable {C : Cn} {H0 : Hp} {W0 : Gh} {T : Hid} {Wx : WX} {sg : L2.St} {X : Cx} {F : FT} {k : Nat} {P : Pr} {t : Ct}
theorem Post.bindE {a b c d : Type} {R : Gh → Rho → Hp → a → b → Prop} {R' : Gh → Rho → Hp → c → d → Prop} {W : Gh} {Q : d → Hp → Prop} {x : Rs a} {f : a → Rho → Sto → Rs c} (h : Post C H0 W0 T Wx sg R' W Q (x.bind f)) :
    Post C H0 W0 T Wx sg R W (fun y G => ∃ U r s v, x = .ok v r s ∧ W.le U ∧ Okk C H0 W0 T U r s sg G ∧ R U r G v y ∧ Post C H0 W0 T Wx sg R' U Q (f v r s)) x := by
  cases x with
  | ok v r s => exact fun U y G l o q => ⟨U, r, s, v, rfl, l, o, q, Post.mono l h⟩
  | exc e r s => exact h
  | err => exact h
theorem peOr {e : Expr} {t u : TE} (h1 : PE X e t) (h2 : PE X e u) : PE X e (fun sg H Q => t sg H Q ∨ u sg H Q) := ⟨fun pins s sg H Q I q => q.elim (h1.run pins s sg H Q I) (h2.run pins s sg H Q I)⟩
theorem piOr {tg e : Expr} {t u : TI} (h1 : PI X tg e t) (h2 : PI X tg e u) : PI X tg e (fun sg H Q => t sg H Q ∨ u sg H Q) := ⟨fun pins s sg H Q I q => q.elim (h1.run pins s sg H Q I) (h2.run pins s sg H Q I)⟩
/-! ### methods of lists and tuples -/
section
variable {o e : Expr} {es : List Expr} {to : TE} {ta : TA} {name : Str} {apos cpos : Pos} {id : String} {r : V → List V → Hp → VK → Prop}
theorem peBmT (pa : PlainAttrs "tuple") (slot : PySem.Slot "tuple" name id) (hty : typeOf (.builtin id) = pure (.type "method_descriptor")) (hm : MtR X id r) (ho : PE X o to) (ha : PA X (e :: es) ta)
    (hbase : attributeBase o name X.env (eval o X.env) = eval o X.env)
    (hfew : ((backTo cpos (starEach (e :: es) X.env)).all (fun x => !x.1) && (backToKw cpos (keywordEach [] X.env)).all (fun x => x.1.isSome) && decide ((e :: es).length + ([] : List Keyword).length + (if ([] : List Keyword).isEmpty then 0 else 1) < 30)) = true)
    (hline : (apos.endLine == cpos.line) = true) (hs : starEach (e :: es) X.env = (false, eval e X.env) :: starEach es X.env) (hplain : (backTo cpos (starEach es X.env)).any (·.1) = false) :
    PE X (.Call (.Attribute o name apos) (e :: es) [] cpos) (fun sg H Q => to sg H fun x G => (∃ a vs F, x = .ref a ∧ TupAt X.K F a vs ∧ (∀ a o, F a = some o → G a = some o)) ∧ ta sg G fun xs G2 => r x xs G2 Q) := by
  constructor
  intro pins s sg H Q I h
  refine wpAny_Call_method_late hbase hfew hline rfl (thn (ho.run pins s sg H _ I h) ?_)
  rintro v s1 ⟨x, G, I1, r1, ⟨a, vs, F, rfl, tt, sb⟩, q1⟩
  cases r1
  have ht := I1.tuple (tt.sq sb)
  obtain ⟨its, _, it, _⟩ := ht
  refine ⟨"tuple", id, pa, slot, hty, it.typeIs, fun b hb => ?_, ?_⟩
  · cases hb
    rcases tt with ⟨us, hF⟩ | ⟨ob, jts, n, h1, h2, h3, _⟩
    · obtain ⟨h1, _⟩ := I1.hok a _ (sb _ _ hF)
      exact ⟨_, h1, rfl⟩
    · exact ⟨ob, I1.kIn a ob h1, h3⟩
  · have hA := ha.run cpos pins s1 sg G _ I1 q1
    rw [hs] at hA ⊢
    refine Calls.callWith_builtin ?_ (Calls.evalArgs_plain ?_)
    · show (false || (backTo cpos (starEach es X.env)).any (·.1)) = false
      rw [hplain]; rfl
    · refine thn hA ?_
      rintro us s2 ⟨ws, G2, I2, r2, q2⟩
      exact hm pins s2 sg G2 (.ref a) ws (.ref a) us Q I2 rfl r2 q2
end
def mtNm : Mt → Str
  | .index => "index"
  | .count => "count"
theorem seqMt_parts {m : Mt} {ys : List Val} {y z : Val} (h : seqMt m ys y = some z) : ∃ bs, elEqs y ys = some bs ∧ ((m = .index ∧ ∃ j, bs.findIdx? id = some j ∧ z = .int (j : Nat)) ∨ (m = .count ∧ z = .int (bs.countP id : Nat))) := by
  unfold seqMt at h
  split at h
  · rename_i bs hf
    refine ⟨bs, hf, ?_⟩
    cases m with
    | index =>
      simp only at h
      cases e : bs.findIdx? id with
      | none => rw [e] at h; cases h
      | some j =>
        rw [e] at h; cases h
        exact .inl ⟨rfl, j, rfl, rfl⟩
    | count =>
      cases h
      exact .inr ⟨rfl, rfl⟩
  · cases h
theorem mthL (g : Cg C X) (m : Mt) : ∃ id, PySem.Slot "list" (mtNm m) id ∧ typeOf (.builtin id) = pure (.type "method_descriptor") ∧ MtR X id (fun x xs H Q => ∃ W ys vs z, Sub W H ∧ RepB C W H (.lst ys) x ∧ Reps C W vs xs ∧ mthop m (.lst ys) vs = some z ∧ ∀ u, Rep C W z u → Q u H) := by
  have one : ∀ {ys vs : List Val} {z : Val}, mthop m (.lst ys) vs = some z → ∃ y, vs = [y] ∧ seqMt m ys y = some z := fun {ys vs z} h => by
    match vs, h with
    | [y], h => exact ⟨y, rfl, h⟩
  cases m with
  | index =>
    refine ⟨_, PySem.F.slot_list_index, PySem.F.type_list_index, ?_⟩
    rintro pins s sg H x xs v us Q I rx rs ⟨W, ys, vs, z, sb, hx, hv, e, q⟩
    obtain ⟨y, rfl, e1⟩ := one e
    obtain ⟨bs, hf, ⟨_, j, h1, rfl⟩ | ⟨h, _⟩⟩ := seqMt_parts e1
    · exact mtIxL g pins s sg H x xs v us Q I rx rs ⟨W, ys, y, bs, j, sb, hx, hv, hf, h1, q _ mk_int⟩
    · cases h
  | count =>
    refine ⟨_, PySem.F.slot_list_count, PySem.F.type_list_count, ?_⟩
    rintro pins s sg H x xs v us Q I rx rs ⟨W, ys, vs, z, sb, hx, hv, e, q⟩
    obtain ⟨y, rfl, e1⟩ := one e
    obtain ⟨bs, hf, ⟨h, _⟩ | ⟨_, rfl⟩⟩ := seqMt_parts e1
    · cases h
    · exact mtCtL g pins s sg H x xs v us Q I rx rs ⟨W, ys, y, bs, sb, hx, hv, hf, q _ mk_int⟩
theorem mthT (g : Cg C X) (m : Mt) : ∃ id, PySem.Slot "tuple" (mtNm m) id ∧ typeOf (.builtin id) = pure (.type "method_descriptor") ∧ MtR X id (fun x xs H Q => ∃ W ys vs z, Sub W H ∧ Rep C W (.tup ys) x ∧ Reps C W vs xs ∧ mthop m (.tup ys) vs = some z ∧ ∀ u, Rep C W z u → Q u H) := by
  have one : ∀ {ys vs : List Val} {z : Val}, mthop m (.tup ys) vs = some z → ∃ y, vs = [y] ∧ seqMt m ys y = some z := fun {ys vs z} h => by
    match vs, h with
    | [y], h => exact ⟨y, rfl, h⟩
  cases m with
  | index =>
    refine ⟨_, PySem.F.slot_tuple_index, PySem.F.type_tuple_index, ?_⟩
    rintro pins s sg H x xs v us Q I rx rs ⟨W, ys, vs, z, sb, hx, hv, e, q⟩
    obtain ⟨y, rfl, e1⟩ := one e
    obtain ⟨bs, hf, ⟨_, j, h1, rfl⟩ | ⟨h, _⟩⟩ := seqMt_parts e1
    · exact mtIxT g pins s sg H x xs v us Q I rx rs ⟨W, ys, y, bs, j, sb, hx, hv, hf, h1, q _ mk_int⟩
    · cases h
  | count =>
    refine ⟨_, PySem.F.slot_tuple_count, PySem.F.type_tuple_count, ?_⟩
    rintro pins s sg H x xs v us Q I rx rs ⟨W, ys, vs, z, sb, hx, hv, e, q⟩
    obtain ⟨y, rfl, e1⟩ := one e
    obtain ⟨bs, hf, ⟨h, _⟩ | ⟨_, rfl⟩⟩ := seqMt_parts e1
    · cases h
    · exact mtCtT g pins s sg H x xs v us Q I rx rs ⟨W, ys, y, bs, sb, hx, hv, hf, q _ mk_int⟩
theorem sMth (g : Cg C X) {m : Mt} {a e : Expr} {es : List Expr} {ca : CE} {cs : CEs} {apos cpos : Pos} (ha : PE X a (tR C H0 W0 T Wx (evE F ca))) (hs : PA X (e :: es) (tA C H0 W0 T Wx (evA F cs)))
    (hbase : attributeBase a (mtNm m) X.env (eval a X.env) = eval a X.env)
    (hfew : ((backTo cpos (starEach (e :: es) X.env)).all (fun x => !x.1) && (backToKw cpos (keywordEach [] X.env)).all (fun x => x.1.isSome) && decide ((e :: es).length + ([] : List Keyword).length + (if ([] : List Keyword).isEmpty then 0 else 1) < 30)) = true)
    (hline : (apos.endLine == cpos.line) = true) (hst : starEach (e :: es) X.env = (false, eval e X.env) :: starEach es X.env) (hpl : (backTo cpos (starEach es X.env)).any (·.1) = false) :
    PE X (.Call (.Attribute a (mtNm m) apos) (e :: es) [] cpos) (tR C H0 W0 T Wx (evE F (.mth m ca cs))) := by
  obtain ⟨i1, s1, y1, m1⟩ := mthL g m
  obtain ⟨i2, s2, y2, m2⟩ := mthT g m
  refine (peOr (pe_bm PySem.F.plainAttrs_list s1 y1 m1 (peV ha) hs hbase hfew hline hst hpl) (peBmT PySem.F.plainAttrs_tuple s2 y2 m2 (peV ha) hs hbase hfew hline hst hpl)).conv ?_
  rintro sg H Q ⟨W, r, s, o, p⟩
  rw [evE] at p
  cases hx : frz (evE F ca r s) with
  | err => rw [hx] at p; exact p.elim
  | exc ex r1 s1 =>
    rw [hx] at p
    refine .inl ⟨W, r, s, o, ?_⟩
    show Post _ _ _ _ _ _ _ _ _ (frz (evE F ca r s))
    rw [hx]; exact p
  | ok v r1 s1 =>
    cases v with
    | lst ys =>
      refine .inl ⟨W, r, s, o, p.bindE.imp ?_⟩
      rintro x G ⟨U, r2, s2, v, ev, l1, o1, rx, p1⟩
      have ev := hx.symm.trans ev
      injection ev with ev1 ev2 ev3
      subst ev1 ev2 ev3
      rw [if_pos (show (items _).isSome = true from rfl)] at p1
      obtain ⟨b, ws, rfl, tt, rs⟩ := rep_lst (C := C) (W := U) rx
      refine ⟨.inl ⟨rfl, ws, .inl (.inl (o1.sub _ _ tt))⟩, U, _, _, o1, p1.bind.imp ?_⟩
      rintro zs G2 ⟨U2, r3, s3, vs, l2, o2, rz, p2⟩
      obtain ⟨z, e2, q⟩ := lift_val o2 p2
      exact ⟨U2, ys, vs, z, o2.sub, (Rep.mono l2 rx).b o2.sub, rz, e2, q⟩
    | tup ys =>
      refine .inr ⟨W, r, s, o, p.bindE.imp ?_⟩
      rintro x G ⟨U, r2, s2, v, ev, l1, o1, rx, p1⟩
      have ev := hx.symm.trans ev
      injection ev with ev1 ev2 ev3
      subst ev1 ev2 ev3
      rw [if_pos (show (items _).isSome = true from rfl)] at p1
      obtain ⟨b, ws, rfl, tt, rs⟩ := rep_tup (C := C) (W := U) rx
      refine ⟨⟨b, ws, U.F, rfl, g.hK ▸ tt, o1.sub⟩, U, _, _, o1, p1.bind.imp ?_⟩
      rintro zs G2 ⟨U2, r3, s3, vs, l2, o2, rz, p2⟩
      obtain ⟨z, e2, q⟩ := lift_val o2 p2
      exact ⟨U2, ys, vs, z, o2.sub, Rep.mono l2 rx, rz, e2, q⟩
    | _ =>
      rw [hx] at p
      exact p.elim
theorem sUpp {a : Expr} {ca : CE} {apos pos : Pos} (ha : PE X a (tR C H0 W0 T Wx (evE F ca))) (hbase : attributeBase a "upper" X.env (eval a X.env) = eval a X.env) (hline : (apos.endLine == pos.line) = true) :
    PE X (.Call (.Attribute a "upper" apos) [] [] pos) (tR C H0 W0 T Wx (evE F (.upp ca))) := by
  refine (pe_upper (peV ha) hbase hline).conv ?_
  rintro sg H Q ⟨W, r, s, o, p⟩
  rw [evE] at p
  refine ⟨W, r, s, o, p.bind.imp ?_⟩
  rintro x G ⟨U, r1, s1, v, l1, o1, rx, p1⟩
  cases v with
  | str z =>
    dsimp only at p1
    split at p1
    · rename_i hz
      obtain rfl := rep_str (C := C) (W := U) rx
      exact ⟨⟨z, rfl⟩, z, rfl, rfl, hz, p1 U _ G (Gh.le.refl _) o1 (mk_str (C := C) (W := U))⟩
    · exact p1.elim
  | _ => exact p1.elim
end
end Gz
namespace Gz
open PySem PySem.Spec PyProof.Rows L2
section
variable {C : Cn} {H0 H : Hp} {W0 W : Gh} {T : Hid} {r : Rho} {s : Sto} {sg : L2.St}
theorem Okk.heldSet (k : Okk C H0 W0 T W r s sg H) {i : Nat} {sl tl : Slot} {a : Addr} {ob : HO} (hsl : sl.held = true) (htl : tl.held = true) (h : r[i]? = some (some sl)) (ha : sg[i]? = some (some (.ref a))) (hr : SltR C W tl ob) :
    Okk C H0 W0 T W (r.set i (some tl)) s sg (upd H a ob) := by
  obtain ⟨b, vs, h1, h2, h3, h4, h5, h6⟩ := k.hold i sl h hsl
  rw [ha] at h1
  cases h1
  refine ⟨fun c o q => ?_, k.len, fun j c q => ?_, k.nd, fun j v q => ?_, fun j zs q b0 => ?_, fun j1 j2 us zs y q1 q2 b1 b2 e1 e2 => ?_, by rw [List.length_set]; exact k.slen, fun c o q hm => ?_, k.fF, k.le, k.fL, fun q hq => ?_, k.hnd⟩
  · rw [upd_ne (fun e => by subst e; rw [h2] at q; cases q)]
    exact k.sub c o q
  · obtain ⟨g1, zs, us, g2, g3, g4⟩ := k.sto j c q
    refine ⟨g1, zs, us, g2, ?_, g4⟩
    have ne : c ≠ a := fun e => h3 (e ▸ List.mem_iff_getElem?.mpr ⟨j, q⟩)
    rw [upd_ne ne]
    exact g3
  · rcases set_get q with ⟨rfl, e, _⟩ | ⟨n, q⟩
    · cases e; cases htl
    · exact k.val j v q
  · rcases set_get q with ⟨rfl, e, _⟩ | ⟨n, q⟩
    · cases e
      exact ⟨a, ob, ha, h2, h3, h4, upd_same, hr⟩
    · obtain ⟨c, us, g1, g2, g3, g4, g5, g6⟩ := k.hold j zs q b0
      refine ⟨c, us, g1, g2, g3, g4, ?_, g6⟩
      have ne : c ≠ a := fun e => n (k.apart i j sl zs _ h q hsl b0 ha (e ▸ g1))
      rw [upd_ne ne]
      exact g5
  · have get : ∀ {j : Nat} {zs : Slot}, (r.set i (some tl))[j]? = some (some zs) → zs.held = true → ∃ us, r[j]? = some (some us) ∧ us.held = true := fun {j zs} q b0 => by
      rcases set_get q with ⟨rfl, e, _⟩ | ⟨n, q⟩
      · exact ⟨sl, h, hsl⟩
      · exact ⟨zs, q, b0⟩
    obtain ⟨u1, q1, b1⟩ := get q1 b1
    obtain ⟨u2, q2, b2⟩ := get q2 b2
    exact k.apart j1 j2 u1 u2 y q1 q2 b1 b2 e1 e2
  · rw [upd_ne (fun e => by subst e; rw [h4] at q; cases q)]
    exact k.fH c o q hm
  · obtain ⟨g1, g2, g3, ⟨us, g4, g5⟩, g6⟩ := k.hid q hq
    have ne : q.1 ≠ a := fun e => g6 i sl h hsl (by rw [e]; exact ha)
    refine ⟨g1, g2, g3, ⟨us, by rw [upd_ne ne]; exact g4, g5⟩, fun j zs z b0 => ?_⟩
    rcases set_get z with ⟨rfl, e, _⟩ | ⟨n, z⟩
    · exact g6 i sl h hsl
    · exact g6 j zs z b0
theorem Okk.ownSet (k : Okk C H0 W0 T W r s sg H) {i : Nat} {xs ys : List Val} {a : Addr} {ws : List V} (h : r[i]? = some (some (.own xs))) (ha : sg[i]? = some (some (.ref a))) (hr : Reps C W ys ws) :
    Okk C H0 W0 T W (r.set i (some (.own ys))) s sg (upd H a (.lst ws)) := k.heldSet (tl := .own ys) rfl rfl h ha ⟨ws, rfl, hr⟩
theorem Okk.dicSet (k : Okk C H0 W0 T W r s sg H) {i : Nat} {xs ys : List (Key × Val)} {a : Addr} {ws : List (Key × V)} (h : r[i]? = some (some (.dic xs))) (ha : sg[i]? = some (some (.ref a))) (hr : RepK C W ys ws) :
    Okk C H0 W0 T W (r.set i (some (.dic ys))) s sg (upd H a (.dK ws)) := k.heldSet (tl := .dic ys) rfl rfl h ha ⟨ws, rfl, hr⟩
theorem Okk.locSet (k : Okk C H0 W0 T W r s sg H) {j : Nat} {ys : List Val} {a : Addr} {ws : List V} (hj : W.L[j]? = some a) (hr : Reps C W ys ws) : Okk C H0 W0 T W r (s.set j ys) sg (upd H a (.lst ws)) := by
  obtain ⟨f1, xs, vs, f2, f3, f4⟩ := k.sto j a hj
  have hm : a ∈ W.L := List.mem_iff_getElem?.mpr ⟨j, hj⟩
  have jl : j < s.length := by
    rcases Nat.lt_or_ge j s.length with z | z
    · exact z
    · rw [List.getElem?_eq_none z] at f2; cases f2
  refine ⟨fun c o q => ?_, by rw [List.length_set]; exact k.len, fun i c q => ?_, k.nd, k.val, fun i zs q b0 => ?_, k.apart, k.slen, fun c o q hn => ?_, k.fF, k.le, k.fL, fun q hq => ?_, k.hnd⟩
  · rw [upd_ne (fun e => by subst e; rw [f1] at q; cases q)]
    exact k.sub c o q
  · obtain ⟨g1, zs, us, g2, g3, g4⟩ := k.sto i c q
    by_cases e : i = j
    · subst e
      rw [hj] at q
      cases q
      exact ⟨g1, ys, ws, List.getElem?_set_self jl, upd_same, hr⟩
    · refine ⟨g1, zs, us, by rw [List.getElem?_set_ne (Ne.symm e)]; exact g2, ?_, g4⟩
      have ne : c ≠ a := fun e2 => by
        subst e2
        obtain ⟨li, ei⟩ := List.getElem?_eq_some_iff.mp q
        exact e ((List.getElem?_inj li k.nd).mp (q.trans hj.symm))
      rw [upd_ne ne]
      exact g3
  · obtain ⟨c, us, g1, g2, g3, g4, g5, g6⟩ := k.hold i zs q b0
    refine ⟨c, us, g1, g2, g3, g4, ?_, g6⟩
    have ne : c ≠ a := fun e => g3 (e ▸ hm)
    rw [upd_ne ne]
    exact g5
  · rw [upd_ne (fun e => by
      subst e
      rcases k.fL _ hm with z | z
      · exact hn z
      · rw [q] at z; cases z)]
    exact k.fH c o q hn
  · obtain ⟨g1, g2, g3, ⟨us, g4, g5⟩, g6⟩ := k.hid q hq
    have ne : q.1 ≠ a := fun e => g2 (e ▸ hm)
    exact ⟨g1, g2, g3, ⟨us, by rw [upd_ne ne]; exact g4, g5⟩, g6⟩
/-- a slot that holds a list -/
theorem Okk.listy (k : Okk C H0 W0 T W r s sg H) {i : Nat} (h : Gz.listy i r = true) : ∃ a vs, sg[i]? = some (some (.ref a)) ∧ H a = some (.lst vs) := by
  unfold Gz.listy at h
  split at h
  · rename_i xs q
    obtain ⟨a, vs, h1, _, _, _, h5, _⟩ := k.own i xs q
    exact ⟨a, vs, h1, h5⟩
  · rename_i j q
    obtain ⟨x, h1, h2⟩ := k.val i _ q
    rw [Rep] at h2
    obtain ⟨a, rfl, hj⟩ := h2
    obtain ⟨_, _, vs, _, h3, _⟩ := k.sto j a hj
    exact ⟨a, vs, h1, h3⟩
  · cases h
end
section
variable {C : Cn} {H0 : Hp} {W0 : Gh} {T : Hid} {Wx : WX} {sg : L2.St} {X : Cx} {F : FT} {k : Nat} {P : Pr} {t : Ct}
theorem star1 {e : Expr} {env : Env} (h : starEach [e] env = (false, eval e env) :: starEach [] env) {cpos : Pos} : ((backTo cpos (starEach [e] env)).all (fun x => !x.1) && (backToKw cpos (keywordEach [] env)).all (fun x => x.1.isSome) && decide ([e].length + ([] : List Keyword).length + (if ([] : List Keyword).isEmpty then 0 else 1) < 30)) = true := by
  rw [h]; rfl
theorem sApp {i : Nat} {x : Str} {e : Expr} {ce : CE} {p1 apos cpos : Pos} (hN : X.N[i]? = some x) (hv : Vis X.env.scope x) (hd : (x == ("__debug__" : Str)) = false) (hcd : (x == ("__classdict__" : Str)) = false) (he : PE X e (tR C H0 W0 T Wx (evE F ce)))
    (hst : starEach [e] X.env = (false, eval e X.env) :: starEach [] X.env) (hline : (apos.endLine == cpos.line) = true) : PE X (.Call (.Attribute (.Name x p1) "append" apos) [e] [] cpos) (tR C H0 W0 T Wx (evE F (.app i ce))) := by
  refine (pe_bm PySem.F.plainAttrs_list PySem.F.slot_list_append PySem.F.type_list_append mt_append (pe_var hN hv hd hcd) (pa_cons (peV he) pa_nil hst) rfl (star1 hst) hline hst rfl).conv ?_
  rintro sg H Q ⟨W, r, s, o, p⟩
  rw [evE] at p
  by_cases hl : listy i r = true
  · rw [if_pos hl] at p
    obtain ⟨a, vs, h1, h2⟩ := o.listy hl
    refine ⟨.ref a, h1, .inl ⟨rfl, vs, .inl (.inl h2)⟩, W, r, s, o, p.bind.imp ?_⟩
    rintro y G ⟨U, r1, s1, v, l1, o1, ry, p1⟩
    have ry : Rep C U v y := ry
    split at p1
    · rename_i xs q
      split at p1
      · rename_i hz
        obtain ⟨b, ws, g1, g2, g3, g4, g5, g6⟩ := o1.own i xs q
        rw [h1] at g1
        cases g1
        refine ⟨a, ws, y, rfl, rfl, g5, by rw [← g6.length]; exact hz, ?_⟩
        exact p1 U _ _ (Gh.le.refl _) (o1.ownSet q h1 (g6.append (.cons ry .nil))) (mk_non (C := C) (W := U))
      · exact p1.elim
    · rename_i j q
      split at p1
      · rename_i xs q2
        split at p1
        · rename_i hz
          obtain ⟨z, g1, g2⟩ := o1.val i _ q
          rw [h1] at g1
          cases g1
          rw [Rep] at g2
          obtain ⟨b, e, hj⟩ := g2
          cases e
          obtain ⟨_, zs, ws, g3, g4, g5⟩ := o1.sto j a hj
          rw [q2] at g3
          cases g3
          refine ⟨a, ws, y, rfl, rfl, g4, by rw [← g5.length]; exact hz, ?_⟩
          exact p1 U _ _ (Gh.le.refl _) (o1.locSet hj (g5.append (.cons ry .nil))) (mk_non (C := C) (W := U))
        · exact p1.elim
      · exact p1.elim
    · exact p1.elim
  · rw [if_neg hl] at p
    exact p.elim
theorem sPopAt {i : Nat} {x : Str} {e : Expr} {ce : CE} {p1 apos cpos : Pos} (hN : X.N[i]? = some x) (hv : Vis X.env.scope x) (hd : (x == ("__debug__" : Str)) = false) (hcd : (x == ("__classdict__" : Str)) = false) (he : PE X e (tR C H0 W0 T Wx (evE F ce)))
    (hst : starEach [e] X.env = (false, eval e X.env) :: starEach [] X.env) (hline : (apos.endLine == cpos.line) = true) : PE X (.Call (.Attribute (.Name x p1) "pop" apos) [e] [] cpos) (tR C H0 W0 T Wx (evE F (.popAt i ce))) := by
  refine (pe_bm PySem.F.plainAttrs_list PySem.F.slot_list_pop PySem.F.type_list_pop mt_popAt (pe_var hN hv hd hcd) (pa_cons (peV he) pa_nil hst) rfl (star1 hst) hline hst rfl).conv ?_
  rintro sg H Q ⟨W, r, s, o, p⟩
  rw [evE] at p
  by_cases hl : listy i r = true
  · rw [if_pos hl] at p
    obtain ⟨a, vs, h1, h2⟩ := o.listy hl
    refine ⟨.ref a, h1, .inl ⟨rfl, vs, .inl (.inl h2)⟩, W, r, s, o, p.bind.imp ?_⟩
    rintro y G ⟨U, r1, s1, v, l1, o1, ry, p1⟩
    have ry : Rep C U v y := ry
    split at p1
    · rename_i xs n q _
      split at p1
      · rename_i hz
        split at p1
        · rename_i w hw
          obtain ⟨b, ws, g1, g2, g3, g4, g5, g6⟩ := o1.own i xs q
          rw [h1] at g1
          cases g1
          obtain rfl := rep_int ry
          obtain ⟨u, k1, k2⟩ := g6.get hw
          have hlt : n.toNat < ws.length := by
            rcases Nat.lt_or_ge n.toNat ws.length with z | z
            · exact z
            · rw [List.getElem?_eq_none z] at k1; cases k1
          have ix : seqIndex? n ws.length = some n.toNat := (ixN_seq (show ixN ws.length n = some n.toNat by unfold ixN; rw [if_pos hz.1, if_pos (by omega)])).1
          refine ⟨a, ws, n, n.toNat, u, rfl, rfl, g5, by omega, hz.2, ix, k1, ?_⟩
          exact p1 U _ _ (Gh.le.refl _) (o1.ownSet q h1 (g6.erase _)) k2
        · exact p1.elim
      · exact p1.elim
    · exact p1.elim
  · rw [if_neg hl] at p
    exact p.elim
theorem sMthV (g : Cg C X) {m : Mt} {i : Nat} {x : Str} {e : Expr} {es : List Expr} {cs : CEs} {p1 apos cpos : Pos} (hN : X.N[i]? = some x) (hv : Vis X.env.scope x) (hd : (x == ("__debug__" : Str)) = false) (hcd : (x == ("__classdict__" : Str)) = false) (hs : PA X (e :: es) (tA C H0 W0 T Wx (evA F cs)))
    (hfew : ((backTo cpos (starEach (e :: es) X.env)).all (fun x => !x.1) && (backToKw cpos (keywordEach [] X.env)).all (fun x => x.1.isSome) && decide ((e :: es).length + ([] : List Keyword).length + (if ([] : List Keyword).isEmpty then 0 else 1) < 30)) = true)
    (hline : (apos.endLine == cpos.line) = true) (hst : starEach (e :: es) X.env = (false, eval e X.env) :: starEach es X.env) (hpl : (backTo cpos (starEach es X.env)).any (·.1) = false) :
    PE X (.Call (.Attribute (.Name x p1) (mtNm m) apos) (e :: es) [] cpos) (tR C H0 W0 T Wx (evE F (.mthV m i cs))) := by
  obtain ⟨i1, s1, y1, m1⟩ := mthL g m
  refine (pe_bm PySem.F.plainAttrs_list s1 y1 m1 (pe_var hN hv hd hcd) hs rfl hfew hline hst hpl).conv ?_
  rintro sg H Q ⟨W, r, s, o, p⟩
  rw [evE] at p
  by_cases hl : listy i r = true
  · rw [if_pos hl] at p
    obtain ⟨a, vs, h1, h2⟩ := o.listy hl
    refine ⟨.ref a, h1, .inl ⟨rfl, vs, .inl (.inl h2)⟩, W, r, s, o, p.bind.imp ?_⟩
    rintro y G ⟨U, r1, s1, v, l1, o1, ry, p1⟩
    split at p1
    · rename_i xs q
      obtain ⟨b, ws, g1, g2, g3, g4, g5, g6⟩ := o1.own i xs q
      rw [h1] at g1
      cases g1
      obtain ⟨z, e2, q⟩ := lift_val o1 p1
      exact ⟨U, xs, v, z, o1.sub, ⟨a, ws, rfl, g5, g6⟩, ry, e2, q⟩
    · exact p1.elim
  · rw [if_neg hl] at p
    exact p.elim
theorem sPopD (g : Cg C X) {i : Nat} {x : Str} {e : Expr} {ce : CE} {p1 apos cpos : Pos} (hN : X.N[i]? = some x) (hv : Vis X.env.scope x) (hd : (x == ("__debug__" : Str)) = false) (hcd : (x == ("__classdict__" : Str)) = false) (he : PE X e (tR C H0 W0 T Wx (evE F ce)))
    (hst : starEach [e] X.env = (false, eval e X.env) :: starEach [] X.env) (hline : (apos.endLine == cpos.line) = true) : PE X (.Call (.Attribute (.Name x p1) "pop" apos) [e] [] cpos) (tR C H0 W0 T Wx (evE F (.popD i ce))) := by
  refine (pe_dpop1 (pe_var hN hv hd hcd) (peV he) ⟨rfl, star1 hst, hline, by rw [hst]; rfl⟩).conv ?_
  rintro sg H Q ⟨W, r, s, o, p⟩
  rw [evE] at p
  split at p
  · rename_i hl
    obtain ⟨kvs0, q0⟩ : ∃ kvs, r[i]? = some (some (.dic kvs)) := by
      unfold dicy at hl
      split at hl
      · rename_i kvs q
        exact ⟨kvs, q⟩
      · cases hl
    obtain ⟨a, ks0, h1, _, _, _, h5, _⟩ := o.dic i kvs0 q0
    refine ⟨.ref a, h1, a, rfl, .inl ⟨ks0, .inl h5⟩, W, r, s, o, p.bind.imp ?_⟩
    rintro y G ⟨U, r1, s1, v, l1, o1, ry, p1⟩
    have ry : Rep C U v y := ry
    split at p1
    · rename_i kvs n q _
      obtain ⟨b, ks, g1, g2, g3, g4, g5, g6⟩ := o1.dic i kvs q
      rw [h1] at g1
      cases g1
      obtain rfl := rep_int ry
      split at p1
      · rename_i w hw
        rcases g6.get (k := .inl n) with ⟨z1, _⟩ | ⟨v', x', z1, z2, z3⟩
        · rw [z1] at hw; cases hw
        · rw [z1] at hw
          cases hw
          exact ⟨ks, .inl n, x', g5, rfl, z2, p1 U _ _ (Gh.le.refl _) (o1.dicSet q h1 g6.drop) z3⟩
      · exact p1.elim
    · exact p1.elim
  · exact p.elim
theorem star2 {e e2 : Expr} {env : Env} (h : starEach [e, e2] env = (false, eval e env) :: starEach [e2] env) (h2 : starEach [e2] env = (false, eval e2 env) :: starEach [] env) {cpos : Pos} : ((backTo cpos (starEach [e, e2] env)).all (fun x => !x.1) && (backToKw cpos (keywordEach [] env)).all (fun x => x.1.isSome) && decide ([e, e2].length + ([] : List Keyword).length + (if ([] : List Keyword).isEmpty then 0 else 1) < 30)) = true := by
  rw [h, h2]; rfl
theorem sIns {i : Nat} {x : Str} {kE e : Expr} {ck ce : CE} {p1 apos cpos : Pos} (hN : X.N[i]? = some x) (hv : Vis X.env.scope x) (hd : (x == ("__debug__" : Str)) = false) (hcd : (x == ("__classdict__" : Str)) = false) (hk : PE X kE (tR C H0 W0 T Wx (evE F ck))) (he : PE X e (tR C H0 W0 T Wx (evE F ce)))
    (hst : starEach [kE, e] X.env = (false, eval kE X.env) :: starEach [e] X.env) (hst2 : starEach [e] X.env = (false, eval e X.env) :: starEach [] X.env) (hline : (apos.endLine == cpos.line) = true) : PE X (.Call (.Attribute (.Name x p1) "insert" apos) [kE, e] [] cpos) (tR C H0 W0 T Wx (evE F (.ins i ck ce))) := by
  refine (pe_bm PySem.F.plainAttrs_list PySem.F.slot_list_insert PySem.F.type_list_insert mtIns (pe_var hN hv hd hcd) (pa_cons (peV hk) (pa_cons (peV he) pa_nil hst2) hst) rfl (star2 hst hst2) hline hst (by rw [hst2]; rfl)).conv ?_
  rintro sg H Q ⟨W, r, s, o, p⟩
  rw [evE] at p
  by_cases hl : listy i r = true
  · rw [if_pos hl] at p
    obtain ⟨a, vs, h1, h2⟩ := o.listy hl
    refine ⟨.ref a, h1, .inl ⟨rfl, vs, .inl (.inl h2)⟩, W, r, s, o, p.bind.imp ?_⟩
    rintro y0 G0 ⟨U0, r0, s0, v0, l0, o0, ry0, p0⟩
    have ry0 : Rep C U0 v0 y0 := ry0
    refine ⟨U0, r0, s0, o0, p0.bind.imp ?_⟩
    rintro y G ⟨U, r1, s1, v, l1, o1, ry, p1⟩
    have ry : Rep C U v y := ry
    split at p1
    · rename_i xs n q _
      split at p1
      · rename_i hz
        obtain ⟨b, ws, g1, g2, g3, g4, g5, g6⟩ := o1.own i xs q
        rw [h1] at g1
        cases g1
        obtain rfl := rep_int ry0
        have ln := g6.length
        refine ⟨a, ws, y, n, rfl, rfl, g5, hz.1, hz.2.1, by rw [← ln]; exact hz.2.2, ?_⟩
        have g7 : Reps C U (xs.take (min n.toNat xs.length) ++ v :: xs.drop (min n.toNat xs.length)) (ws.take (min n.toNat ws.length) ++ y :: ws.drop (min n.toNat ws.length)) := by
          rw [← ln]
          exact (g6.take _).append (.cons ry (g6.drop _))
        exact p1 U _ _ (Gh.le.refl _) (o1.ownSet q h1 g7) (mk_non (C := C) (W := U))
      · exact p1.elim
    · exact p1.elim
  · rw [if_neg hl] at p
    exact p.elim
theorem sRmv (g : Cg C X) {i : Nat} {x : Str} {e : Expr} {ce : CE} {p1 apos cpos : Pos} (hN : X.N[i]? = some x) (hv : Vis X.env.scope x) (hd : (x == ("__debug__" : Str)) = false) (hcd : (x == ("__classdict__" : Str)) = false) (he : PE X e (tR C H0 W0 T Wx (evE F ce)))
    (hst : starEach [e] X.env = (false, eval e X.env) :: starEach [] X.env) (hline : (apos.endLine == cpos.line) = true) : PE X (.Call (.Attribute (.Name x p1) "remove" apos) [e] [] cpos) (tR C H0 W0 T Wx (evE F (.rmv i ce))) := by
  refine (pe_bm PySem.F.plainAttrs_list PySem.F.slot_list_remove PySem.F.type_list_remove (mtRem g) (pe_var hN hv hd hcd) (pa_cons (peV he) pa_nil hst) rfl (star1 hst) hline hst rfl).conv ?_
  rintro sg H Q ⟨W, r, s, o, p⟩
  rw [evE] at p
  by_cases hl : listy i r = true
  · rw [if_pos hl] at p
    obtain ⟨a, vs, h1, h2⟩ := o.listy hl
    refine ⟨.ref a, h1, .inl ⟨rfl, vs, .inl (.inl h2)⟩, W, r, s, o, p.bind.imp ?_⟩
    rintro y G ⟨U, r1, s1, v, l1, o1, ry, p1⟩
    have ry : Rep C U v y := ry
    split at p1
    · rename_i xs q
      split at p1
      · rename_i bs hb
        split at p1
        · rename_i j hj
          obtain ⟨b, ws, g1, g2, g3, g4, g5, g6⟩ := o1.own i xs q
          rw [h1] at g1
          cases g1
          refine ⟨U, a, ws, xs, v, bs, j, o1.sub, rfl, g5, g6, .cons ry .nil, hb, hj, ?_⟩
          exact p1 U _ _ (Gh.le.refl _) (o1.ownSet q h1 (g6.erase _)) (mk_non (C := C) (W := U))
        · exact p1.elim
      · exact p1.elim
    · exact p1.elim
  · rw [if_neg hl] at p
    exact p.elim
theorem sPop {i : Nat} {x : Str} {p1 apos cpos : Pos} (hN : X.N[i]? = some x) (hv : Vis X.env.scope x) (hd : (x == ("__debug__" : Str)) = false) (hcd : (x == ("__classdict__" : Str)) = false) (hline : (apos.endLine == cpos.line) = true) :
    PE X (.Call (.Attribute (.Name x p1) "pop" apos) [] [] cpos) (tR C H0 W0 T Wx (evE F (.pop i))) := by
  refine (pe_bm0 PySem.F.plainAttrs_list PySem.F.slot_list_pop PySem.F.type_list_pop mt_pop (pe_var hN hv hd hcd) rfl hline).conv ?_
  rintro sg H Q ⟨W, r, s, o, p⟩
  rw [evE] at p
  split at p
  · rename_i xs q
    split at p
    · rename_i w hw
      obtain ⟨a, ws, g1, g2, g3, g4, g5, g6⟩ := o.own i xs q
      obtain ⟨u, k1, k2⟩ := g6.get hw
      refine ⟨.ref a, g1, .inl ⟨rfl, ws, .inl (.inl g5)⟩, a, ws, u, rfl, rfl, g5, by rw [← g6.length]; exact k1, ?_⟩
      exact p W _ _ (Gh.le.refl _) (o.ownSet q g1 g6.dropLast) k2
    · exact p.elim
  · exact p.elim
/-! ### ranges as lists and tuples -/
theorem rgV_eq (a b : Int) : rgV a b = (rngI a b).map V.int := by
  unfold rgV rngI
  rw [List.map_map]
  rfl
end
end Gz
namespace Gz
open PySem PySem.Spec PyProof.Rows L2
section
variable {C : Cn} {H0 : Hp} {W0 : Gh} {T : Hid} {Wx : WX} {sg : L2.St} {X : Cx} {F : FT} {k : Nat} {P : Pr} {t : Ct}
/-! ### list(range(..)), tuple(range(..)) -/
theorem peTupRg {e : Expr} {te : L2.St → Hp → (Int → Int → Hp → Prop) → Prop} {p pos : Pos} (hc : X.calm = true) (hg : Gl X "tuple") (hm : X.mg "tuple" = none) (he : PRg X e te) (na : starEach [e] X.env = (false, eval e X.env) :: starEach [] X.env) :
    PE X (.Call (.Name "tuple" p) [e] [] pos) (fun sg H Q => te sg H fun a b G => RgOk a b ∧ NewT G (rgV a b) Q) := by
  constructor
  intro pins s sg H Q I h
  refine Call_ (ld_blt I hg hm boot_tuple (PyProof.Rows.callWith_type1 (args_cons (thn (he pins s sg H _ I h) ?_) na) na))
  rintro x s1 ⟨r, a, b, t, u, v, H1, rfl, hr, I1, ⟨b1, b2, b3, b4, b5⟩, q⟩
  refine args_nil ?_
  refine call_tuple_range (n := (b - a).toNat) (I1.ok.hd hc) hr (small_one b1 b2 b3 b4) (rangeSize_nat a b) b5 ?_
  intro h' tk acc hk hi
  have I2 : Inv X pins sg H1 { s1 with heap := h', toks := tk } := I1.kept hk
  have vr := vals_rg hi
  have e : acc = acc.toList.toArray := by simp
  have L := laidT0 (t := tk) (Q := Q) I2 vr (by rw [rgV_length, sizeLine_eq]; omega) fun p np => q p _ np vr
  unfold tupO at L
  rw [← e] at L
  exact L
theorem sRng1 (g : CxG C P t k X) {tp : Bool} {a : Expr} {ca : CE} {p0 p1 pos pos1 : Pos} (hb : ("range" : Str) ∈ P.bl) (hg : Gl X "range") (hb2 : (if tp then ("tuple" : Str) else "list") ∈ P.bl) (hg2 : Gl X (if tp then ("tuple" : Str) else "list")) (ha : PE X a (tR C H0 W0 T Wx (evE F ca)))
    (na : starEach [a] X.env = (false, eval a X.env) :: starEach [] X.env) : PE X (.Call (.Name (if tp then ("tuple" : Str) else "list") p0) [.Call (.Name "range" p1) [a] [] pos1] [] pos) (tR C H0 W0 T Wx (evE F (.rng tp .no (.so ca)))) := by
  have main : ∀ {sg : L2.St} {H : Hp} {Q : VK}, tR C H0 W0 T Wx (evE F (.rng tp .no (.so ca))) sg H Q → tRg1 (tV C H0 W0 T Wx fun r s => frz (evE F ca r s)) sg H (fun a b G => RgOk a b ∧ ∃ W, Sub W G ∧ Gives C W G Q (if tp then .val (.tup ((rngI a b).map .int)) else .fr ((rngI a b).map .int))) := by
    rintro sg H Q ⟨W, r, s, o, p⟩
    rw [evE, evO, bind_ok, evO] at p
    refine ⟨W, r, s, o, ?_⟩
    dsimp only
    revert p
    cases frz (evE F ca r s) with
    | err => exact fun p => p
    | exc e r s => exact fun p => p
    | ok v r1 s1 =>
      intro p U x G l o1 rx
      cases v with
      | int n =>
        have p : Post C H0 W0 T Wx sg (RvR C H0 T sg) W Q (if rngOk 0 n && decide ((n - 0).toNat ≤ 16777216) then _ else _) := p
        split at p
        · rename_i hz
          simp only [rngOk, Bool.and_eq_true, decide_eq_true_eq] at hz
          refine ⟨n, rep_int (C := C) (W := U) rx, ⟨hz.1.1, hz.1.2.1, hz.1.2.2.1, hz.1.2.2.2, by omega⟩, U, o1.sub, gives_of o1 (Post.mono l p)⟩
        · exact p.elim
      | _ => exact p.elim
  cases tp with
  | true =>
    refine (peTupRg g.calm hg2 (g.bl _ hb2) (prg_1 hg (g.bl _ hb) (peV ha) na) rfl).conv ?_
    intro sg H Q h
    obtain ⟨W, r, s, o, p⟩ := main h
    refine ⟨W, r, s, o, p.imp ?_⟩
    rintro x G ⟨n, e, ok, U, sb, gv⟩
    refine ⟨n, e, ok, fun q us nq _ => ?_⟩
    rw [rgV_eq]
    exact gv.tup (sb.none nq) nq (reps_ints _)
  | false =>
    refine (pe_listRg g.calm hg2 (g.bl _ hb2) (prg_1 hg (g.bl _ hb) (peV ha) na) rfl).conv ?_
    intro sg H Q h
    obtain ⟨W, r, s, o, p⟩ := main h
    refine ⟨W, r, s, o, p.imp ?_⟩
    rintro x G ⟨n, e, ok, U, sb, gv⟩
    refine ⟨n, e, ok, fun q nq => ?_⟩
    rw [rgV_eq]
    exact gv q _ nq (reps_ints _)
theorem sRng2 (g : CxG C P t k X) {tp : Bool} {a b : Expr} {ca cb : CE} {p0 p1 pos pos1 : Pos} (hb : ("range" : Str) ∈ P.bl) (hg : Gl X "range") (hb2 : (if tp then ("tuple" : Str) else "list") ∈ P.bl) (hg2 : Gl X (if tp then ("tuple" : Str) else "list")) (ha : PE X a (tR C H0 W0 T Wx (evE F ca))) (hbb : PE X b (tR C H0 W0 T Wx (evE F cb)))
    (na : starEach [a, b] X.env = (false, eval a X.env) :: starEach [b] X.env) (nb : starEach [b] X.env = (false, eval b X.env) :: starEach [] X.env) : PE X (.Call (.Name (if tp then ("tuple" : Str) else "list") p0) [.Call (.Name "range" p1) [a, b] [] pos1] [] pos) (tR C H0 W0 T Wx (evE F (.rng tp (.so ca) (.so cb)))) := by
  have main : ∀ {sg : L2.St} {H : Hp} {Q : VK}, tR C H0 W0 T Wx (evE F (.rng tp (.so ca) (.so cb))) sg H Q → tRg2 (tV C H0 W0 T Wx fun r s => frz (evE F ca r s)) (tV C H0 W0 T Wx fun r s => frz (evE F cb r s)) sg H (fun a b G => RgOk a b ∧ ∃ W, Sub W G ∧ Gives C W G Q (if tp then .val (.tup ((rngI a b).map .int)) else .fr ((rngI a b).map .int))) := by
    rintro sg H Q ⟨W, r, s, o, p⟩
    rw [evE, evO] at p
    refine ⟨W, r, s, o, ?_⟩
    dsimp only
    revert p
    cases frz (evE F ca r s) with
    | err => exact fun p => p
    | exc e r s => exact fun p => p
    | ok v r1 s1 =>
      intro p U x G l o1 rx
      cases v with
      | int n =>
        rw [bind_ok] at p
        simp only [bind_ok] at p
        rw [evO] at p
        refine ⟨U, r1, s1, o1, ?_⟩
        dsimp only
        revert p
        cases frz (evE F cb r1 s1) with
        | err => exact fun p => p
        | exc e r s => exact fun p => Post.mono l p
        | ok w r2 s2 =>
          intro p U2 y G2 l2 o2 ry
          cases w with
          | int m =>
            have p : Post C H0 W0 T Wx sg (RvR C H0 T sg) W Q (if rngOk n m && decide ((m - n).toNat ≤ 16777216) then _ else _) := p
            split at p
            · rename_i hz
              simp only [rngOk, Bool.and_eq_true, decide_eq_true_eq] at hz
              exact ⟨n, m, rep_int (C := C) (W := U) rx, rep_int (C := C) (W := U2) ry, ⟨hz.1.1, hz.1.2.1, hz.1.2.2.1, hz.1.2.2.2, by omega⟩, U2, o2.sub, gives_of o2 (Post.mono (l.trans l2) p)⟩
            · exact p.elim
          | _ => exact p.elim
      | _ => exact p.elim
  have bp : (backTo pos1 (starEach [b] X.env)).any (·.1) = false := by rw [nb]; rfl
  cases tp with
  | true =>
    refine (peTupRg g.calm hg2 (g.bl _ hb2) (prg_2 hg (g.bl _ hb) (peV ha) (peV hbb) na nb bp) rfl).conv ?_
    intro sg H Q h
    obtain ⟨W, r, s, o, p⟩ := main h
    refine ⟨W, r, s, o, p.imp ?_⟩
    rintro x G ⟨U2, r2, s2, o2, p2⟩
    refine ⟨U2, r2, s2, o2, p2.imp ?_⟩
    rintro y G2 ⟨n, m, e, e2, ok, U, sb, gv⟩
    refine ⟨n, m, e, e2, ok, fun q us nq _ => ?_⟩
    rw [rgV_eq]
    exact gv.tup (sb.none nq) nq (reps_ints _)
  | false =>
    refine (pe_listRg g.calm hg2 (g.bl _ hb2) (prg_2 hg (g.bl _ hb) (peV ha) (peV hbb) na nb bp) rfl).conv ?_
    intro sg H Q h
    obtain ⟨W, r, s, o, p⟩ := main h
    refine ⟨W, r, s, o, p.imp ?_⟩
    rintro x G ⟨U2, r2, s2, o2, p2⟩
    refine ⟨U2, r2, s2, o2, p2.imp ?_⟩
    rintro y G2 ⟨n, m, e, e2, ok, U, sb, gv⟩
    refine ⟨n, m, e, e2, ok, fun q nq => ?_⟩
    rw [rgV_eq]
    exact gv q _ nq (reps_ints _)
/-! ### what is walked -/
theorem wipe_set1 (i : Nat) (o : Option V) : ∀ (is : List Nat) (sg : L2.St), (L2.wipe (sg.set i o) is).set i none = (L2.wipe sg is).set i none
  | [], sg => by rw [L2.wipe, L2.wipe, List.set_set]
  | j :: is, sg => by
    rw [L2.wipe, L2.wipe]
    by_cases e : j = i
    · subst e
      rw [List.set_set, List.set_set, wipe_set1]
    · rw [List.set_comm _ _ e, wipe_set1, List.set_comm _ _ (Ne.symm e)]
theorem wipe_set {i : Nat} {o : Option V} : ∀ {is : List Nat} {sg : L2.St}, i ∈ is → L2.wipe (sg.set i o) is = L2.wipe sg is
  | [], _, h => by simp at h
  | j :: is, sg, h => by
    rw [L2.wipe, L2.wipe]
    by_cases e : i = j
    · subst e
      exact wipe_set1 i o is sg
    · rw [wipe_set ((List.mem_cons.mp h).resolve_left e)]
/-- J yields xs, and the targets take each -/
structure Walks (C : Cn) (g : TG) (tg : List Nat) (U : Gh) (J : It) (xs : List Val) : Prop where
  go : ∀ i H, Sub U H → i < xs.length → J.go i H
  stop : ∀ i H, Sub U H → xs.length ≤ i → J.stop i H
  yld : ∀ (H0 : Hp) (W0 : Gh) (T : Hid) (W : Gh) (r r' : Rho) (s : Sto) (sg : L2.St) (H G : Hp) (i : Nat) (x : V) (v : Val), Okk C H0 W0 T W r s sg H → U.le W → J.yld i H x G → xs[i]? = some v → bindT tg v r = some r' →
    ∀ Q : L2.St → Hp → Prop, (∀ sg', Okk C H0 W0 T W r' s sg' G → L2.wipe sg' tg = L2.wipe sg tg → Q sg' G) → g x sg G Q
/-- names, one after another -/
def gNames : List Nat → TGs
  | [] => gNil
  | i :: is => gCons (gName i) (gNames is)
/-- a target: a name, or names of a tuple -/
inductive Tgt (K : PySem.W.Frag) : List Nat → TG → Prop
  | one (i : Nat) : Tgt K [i] (gName i)
  | many (is : List Nat) (h : is.length ≠ 1) : Tgt K is (gTup K is.length (gNames is))
theorem bindT_many {is : List Nat} (h : is.length ≠ 1) {v : Val} {r r' : Rho} (hb : bindT is v r = some r') : ∃ xs, v = .tup xs ∧ xs.length = is.length ∧ r' = (is.zip xs).foldl (fun r p => r.set p.1 (some (.val p.2))) r := by
  unfold bindT at hb
  split at hb
  · simp at h
  · split at hb
    · split at hb
      · rename_i hl
        cases hb
        exact ⟨_, rfl, hl, rfl⟩
      · cases hb
    · cases hb
theorem wipe_mono {i : Nat} {is : List Nat} {s1 s2 : L2.St} (h : L2.wipe s1 is = L2.wipe s2 is) : L2.wipe s1 (i :: is) = L2.wipe s2 (i :: is) := by
  rw [L2.wipe, L2.wipe, h]
theorem takeNames {W : Gh} {s : Sto} {H : Hp} : ∀ {is : List Nat} {vs : List V} {xs : List Val} {r : Rho} {sg : L2.St} (_ : Okk C H0 W0 T W r s sg H) (_ : Reps C W xs vs) (_ : xs.length = is.length) {Q : L2.St → Hp → Prop}
    (_ : ∀ sg', Okk C H0 W0 T W ((is.zip xs).foldl (fun r p => r.set p.1 (some (.val p.2))) r) s sg' H → L2.wipe sg' is = L2.wipe sg is → Q sg' H), gNames is vs sg H Q
  | [], vs, xs, r, sg, o, rs, hl, Q, q => by
    obtain rfl : xs = [] := List.length_eq_zero_iff.mp hl
    obtain rfl := reps_nil.mp rs
    exact ⟨rfl, q _ o rfl⟩
  | i :: is, vs, xs, r, sg, o, rs, hl, Q, q => by
    cases xs with
    | nil => simp at hl
    | cons x xs =>
      obtain ⟨v, ws, rfl, hv, rs⟩ := reps_cons.mp rs
      refine ⟨v, ws, rfl, ?_⟩
      exact takeNames (o.setV i hv) rs (by simpa using hl) fun sg' o' e => q sg' o' (by rw [wipe_mono e, wipe_set List.mem_cons_self])
/-- the targets take a value -/
theorem Tgt.take {g : TG} {tg : List Nat} (h : Tgt C.K tg g) {W : Gh} {r r' : Rho} {s : Sto} {H : Hp} {x : V} {v : Val} (o : Okk C H0 W0 T W r s sg H) (rx : Rep C W v x) (hb : bindT tg v r = some r') {Q : L2.St → Hp → Prop}
    (q : ∀ sg', Okk C H0 W0 T W r' s sg' H → L2.wipe sg' tg = L2.wipe sg tg → Q sg' H) : g x sg H Q := by
  cases h with
  | one i =>
    cases hb
    exact q _ (o.setV i rx) (wipe_set List.mem_cons_self)
  | many _ hn =>
    obtain ⟨xs, rfl, hl, rfl⟩ := bindT_many hn hb
    obtain ⟨a, vs, rfl, t, rs⟩ := rep_tup rx
    exact ⟨a, vs, rfl, t.sq o.sub, rs.length.symm.trans hl, takeNames o rs hl q⟩
theorem walks_list {g : TG} {tg : List Nat} (h : Tgt C.K tg g) {U : Gh} {a : Addr} {vs : List V} {xs : List Val} (hF : U.F a = some (.lst vs)) (rs : Reps C U xs vs) : Walks C g tg U (Itl C.K a) xs where
  go i H sb hi := by
    have l := rs.length
    exact ⟨vs, vs[i], .inl (.inl (sb _ _ hF)), List.getElem?_eq_getElem (by omega)⟩
  stop i H sb hi := ⟨vs, .inl (.inl (sb _ _ hF)), by rw [← rs.length]; exact hi⟩
  yld H0 W0 T W r r' s sg H G i x v o l hy hv hb Q q := by
    obtain ⟨rfl, hy⟩ := hy
    have e := hy vs (.inl (.inl (o.sub _ _ (l.2 _ _ hF))))
    obtain ⟨y, e2, ry⟩ := rs.get hv
    rw [e] at e2
    cases e2
    exact h.take o (ry.mono l) hb q
theorem walks_tup {g : TG} {tg : List Nat} (h : Tgt C.K tg g) {U : Gh} {a : Addr} {vs : List V} {xs : List Val} (hF : TupAt C.K U.F a vs) (rs : Reps C U xs vs) : Walks C g tg U (Itt C.K a) xs where
  go i H sb hi := by
    have l := rs.length
    exact ⟨vs, vs[i], hF.sq sb, List.getElem?_eq_getElem (by omega)⟩
  stop i H sb hi := ⟨vs, hF.sq sb, by rw [← rs.length]; exact hi⟩
  yld H0 W0 T W r r' s sg H G i x v o l hy hv hb Q q := by
    obtain ⟨rfl, hy⟩ := hy
    have e := hy vs (hF.sq fun a o' z => o.sub _ _ (l.2 _ _ z))
    obtain ⟨y, e2, ry⟩ := rs.get hv
    rw [e] at e2
    cases e2
    exact h.take o (ry.mono l) hb q
theorem rng_get {a b : Int} {i : Nat} {v : Val} (h : ((rngI a b).map Val.int)[i]? = some v) : v = .int (a + (i : Nat)) := by
  unfold rngI at h
  rw [List.getElem?_map, List.getElem?_map] at h
  cases e : (List.range (b - a).toNat)[i]? with
  | none => rw [e] at h; cases h
  | some j =>
    rw [e] at h
    cases h
    obtain ⟨l, q⟩ := List.getElem?_eq_some_iff.mp e
    rw [List.getElem_range] at q
    rw [q]
theorem rng_len (a b : Int) : ((rngI a b).map Val.int).length = (b - a).toNat := by
  unfold rngI
  rw [List.length_map, List.length_map, List.length_range]
theorem walks_rng {i0 : Nat} {U : Gh} {a b : Int} : Walks C (gName i0) [i0] U (Itr a (b - a).toNat) ((rngI a b).map .int) where
  go i H sb hi := by rw [rng_len] at hi; exact hi
  stop i H sb hi := by rw [rng_len] at hi; exact hi
  yld H0 W0 T W r r' s sg H G i x v o l hy hv hb Q q := by
    obtain ⟨rfl, rfl⟩ := hy
    obtain rfl := rng_get hv
    exact (Tgt.one (K := C.K) i0).take o mk_int hb q
end
end Gz
namespace Gz
open PySem PySem.Spec PyProof.Rows L2
theorem _root_.L2.PI.conv {X : Cx} {tg e : Expr} {t u : TI} (h : PI X tg e t) (i : ∀ sg H R, u sg H R → t sg H R) : PI X tg e u := ⟨fun pins s sg H R I q => h.run pins s sg H R I (i sg H R q)⟩
section
variable (C : Cn) (H0 : Hp) (W0 : Gh) (T : Hid) (Wx : WX)
def tIt (g : TG) (tg : List Nat) (ev : Rho → Sto → Rs (List Val)) : TI := fun sg H R => ∃ W r s, Okk C H0 W0 T W r s sg H ∧ Post C H0 W0 T Wx sg (fun U _ _ xs J => Walks C g tg U J xs) W R (ev r s)
end
section
variable {C : Cn} {H0 : Hp} {W0 : Gh} {T : Hid} {Wx : WX} {sg : L2.St} {X : Cx} {F : FT} {k : Nat} {P : Pr} {t : Ct}
theorem sItSeq (g : Cg C X) {tgE e : Expr} {gt : TG} {tg : List Nat} {ce : CE} (ht : Tgt C.K tg gt) (he : PE X e (tR C H0 W0 T Wx (evE F ce))) : PI X tgE e (tIt C H0 W0 T Wx gt tg (evI F (.seq ce))) := by
  refine (piOr (pi_list (peV he)) (pi_tup (peV he))).conv ?_
  rintro sg H R ⟨W, r, s, o, p⟩
  rw [evI] at p
  cases hx : frz (evE F ce r s) with
  | err => rw [hx] at p; exact p.elim
  | exc ex r1 s1 =>
    rw [hx] at p
    refine .inl ⟨W, r, s, o, ?_⟩
    dsimp only
    rw [hx]; exact p
  | ok v r1 s1 =>
    rw [hx] at p
    cases v with
    | lst ys =>
      refine .inl ⟨W, r, s, o, ?_⟩
      dsimp only
      rw [hx]
      intro U x G l o1 rx
      obtain ⟨a, ws, rfl, tt, rs⟩ := rep_lst (C := C) (W := U) rx
      refine ⟨a, rfl, ⟨ws, .inl (.inl (o1.sub _ _ tt))⟩, ?_⟩
      rw [g.hK]
      exact p U _ G l o1 (walks_list ht tt rs)
    | tup ys =>
      refine .inr ⟨W, r, s, o, ?_⟩
      dsimp only
      rw [hx]
      intro U x G l o1 rx
      obtain ⟨a, ws, rfl, tt, rs⟩ := rep_tup (C := C) (W := U) rx
      refine ⟨a, rfl, ⟨ws, g.hK ▸ tt.sq o1.sub⟩, ?_⟩
      rw [g.hK]
      exact p U _ G l o1 (walks_tup ht tt rs)
    | _ => exact p.elim
theorem sItRng1 (g : CxG C P t k X) {tgE a : Expr} {i : Nat} {ca : CE} {p0 pos : Pos} (hb : ("range" : Str) ∈ P.bl) (hg : Gl X "range") (ha : PE X a (tR C H0 W0 T Wx (evE F ca))) (na : starEach [a] X.env = [(false, eval a X.env)]) :
    PI X tgE (.Call (.Name "range" p0) [a] [] pos) (tIt C H0 W0 T Wx (gName i) [i] (evI F (.rng .no ca))) := by
  refine (pi_range1 hg (g.bl _ hb) (pa_cons (peV ha) pa_nil na) na).conv ?_
  rintro sg H R ⟨W, r, s, o, p⟩
  rw [evI, evO, bind_ok] at p
  refine ⟨W, r, s, o, p.bind.imp ?_⟩
  rintro x G ⟨U, r1, s1, v, l1, o1, rx, p1⟩
  cases v with
  | int n =>
    have p1 : Post C H0 W0 T Wx sg _ U R (if rngOk 0 n = true then _ else _) := p1
    split at p1
    · rename_i hz
      simp only [rngOk, decide_eq_true_eq] at hz
      refine ⟨n, by rw [rep_int (C := C) (W := U) rx], hz.2.2.1, hz.2.2.2, ?_⟩
      have w := walks_rng (C := C) (i0 := i) (U := U) (a := 0) (b := n)
      rw [Int.sub_zero] at w
      exact p1 U _ G (Gh.le.refl _) o1 w
    · exact p1.elim
  | _ => exact p1.elim
theorem sItRng2 (g : CxG C P t k X) {tgE a b : Expr} {i : Nat} {ca cb : CE} {p0 pos : Pos} (hb : ("range" : Str) ∈ P.bl) (hg : Gl X "range") (ha : PE X a (tR C H0 W0 T Wx (evE F ca))) (hbb : PE X b (tR C H0 W0 T Wx (evE F cb)))
    (na : starEach [a, b] X.env = [(false, eval a X.env), (false, eval b X.env)]) (nb : starEach [b] X.env = [(false, eval b X.env)]) :
    PI X tgE (.Call (.Name "range" p0) [a, b] [] pos) (tIt C H0 W0 T Wx (gName i) [i] (evI F (.rng (.so ca) cb))) := by
  refine (pi_range2 hg (g.bl _ hb) (pa_cons (peV ha) (pa_cons (peV hbb) pa_nil nb) (by rw [na, nb])) na nb).conv ?_
  rintro sg H R ⟨W, r, s, o, p⟩
  rw [evI, evO] at p
  refine ⟨W, r, s, o, ?_⟩
  dsimp only
  revert p
  cases frz (evE F ca r s) with
  | err => exact fun p => p
  | exc e r s => exact fun p => p
  | ok v r1 s1 =>
    intro p U x G l o1 rx
    cases v with
    | int n =>
      simp only [bind_ok] at p
      refine ⟨U, r1, s1, o1, (Post.mono l p).bind.imp ?_⟩
      rintro y G2 ⟨U2, r2, s2, w, l2, o2, ry, p2⟩
      cases w with
      | int m =>
        have p2 : Post C H0 W0 T Wx sg _ U2 R (if rngOk n m = true then _ else _) := p2
        split at p2
        · rename_i hz
          simp only [rngOk, decide_eq_true_eq] at hz
          refine ⟨n, m, by rw [rep_int (C := C) (W := U) rx, rep_int (C := C) (W := U2) ry], ⟨hz.1, hz.2.1, hz.2.2.1, hz.2.2.2⟩, ?_⟩
          exact p2 U2 _ G2 (Gh.le.refl _) o2 walks_rng
        · exact p2.elim
      | _ => exact p2.elim
    | _ => exact p.elim
/-! ### comprehensions -/
/-- the new list of a comprehension, hidden -/
theorem Okk.hide {H : Hp} {W : Gh} {r : Rho} {s : Sto} (o : Okk C H0 W0 T W r s sg H) {D : Addr} (nD : H D = none) : Okk C H0 W0 ((D, .own []) :: T) W r s sg (upd H D (.lst [])) := by
  have k := o.newL nD (.lst [])
  refine ⟨k.sub, k.len, k.sto, k.nd, k.val, k.hold, k.apart, k.slen, k.fH, k.fF, k.le, k.fL, fun p hp => ?_, ?_⟩
  · rcases List.mem_cons.mp hp with rfl | hp
    · refine ⟨o.fnone nD, o.lnone nD, o.hnone nD, ⟨_, upd_same, [], rfl, .nil⟩, fun i xs q b0 e => ?_⟩
      obtain ⟨a, vs, h1, _, _, _, h5, _⟩ := o.hold i xs q b0
      rw [h1] at e
      cases e
      rw [nD] at h5; cases h5
    · exact k.hid p hp
  · rw [List.map_cons, List.nodup_cons]
    refine ⟨fun hm => ?_, o.hnd⟩
    obtain ⟨p, hp, e⟩ := List.mem_map.mp hm
    obtain ⟨_, _, _, ⟨vs, h4, _⟩, _⟩ := o.hid p hp
    rw [e, nD] at h4; cases h4
theorem Okk.grow {H : Hp} {W : Gh} {r : Rho} {s : Sto} {D : Addr} {acc : List Val} (o : Okk C H0 W0 ((D, .own acc) :: T) W r s sg H) {v : Val} {y : V} (h : Rep C W v y) :
    ∃ vs, H D = some (.lst vs) ∧ vs.length = acc.length ∧ Okk C H0 W0 ((D, .own (acc ++ [v])) :: T) W r s sg (upd H D (.lst (vs ++ [y]))) := by
  obtain ⟨h1, h2, h3, ⟨_, h4, vs, rfl, h5⟩, h6⟩ := o.hid (D, .own acc) List.mem_cons_self
  have nd := o.hnd
  rw [List.map_cons, List.nodup_cons] at nd
  refine ⟨vs, h4, h5.length.symm, ⟨fun c ob q => ?_, o.len, fun i c q => ?_, o.nd, o.val, fun i xs q b0 => ?_, o.apart, o.slen, fun c ob q hm => ?_, o.fF, o.le, o.fL, fun p hp => ?_, ?_⟩⟩
  · rw [upd_ne (fun e => by subst e; rw [h1] at q; cases q)]
    exact o.sub c ob q
  · obtain ⟨g1, xs, ws, g2, g3, g4⟩ := o.sto i c q
    have ne : c ≠ D := fun e => h2 (e ▸ List.mem_iff_getElem?.mpr ⟨i, q⟩)
    exact ⟨g1, xs, ws, g2, by rw [upd_ne ne]; exact g3, g4⟩
  · obtain ⟨a, ws, g1, g2, g3, g4, g5, g6⟩ := o.hold i xs q b0
    have ne : a ≠ D := fun e => h6 i xs q b0 (by rw [← e]; exact g1)
    exact ⟨a, ws, g1, g2, g3, g4, by rw [upd_ne ne]; exact g5, g6⟩
  · rw [upd_ne (fun e => by subst e; rw [h3] at q; cases q)]
    exact o.fH c ob q hm
  · rcases List.mem_cons.mp hp with rfl | hp
    · exact ⟨h1, h2, h3, ⟨_, upd_same, vs ++ [y], rfl, h5.append (.cons h .nil)⟩, h6⟩
    · obtain ⟨g1, g2, g3, ⟨ws, g4, g5⟩, g6⟩ := o.hid p (List.mem_cons_of_mem _ hp)
      have ne : p.1 ≠ D := fun e => nd.1 (List.mem_map.mpr ⟨p, hp, e⟩)
      exact ⟨g1, g2, g3, ⟨ws, by rw [upd_ne ne]; exact g4, g5⟩, g6⟩
  · rw [List.map_cons, List.nodup_cons]
    exact nd
theorem Okk.unhide {H : Hp} {W : Gh} {r : Rho} {s : Sto} {D : Addr} {acc : List Val} (o : Okk C H0 W0 ((D, .own acc) :: T) W r s sg H) : Okk C H0 W0 T W r s sg H ∧ RvR C H0 T sg W r H (.fr acc) (.ref D) := by
  have nd := o.hnd
  rw [List.map_cons, List.nodup_cons] at nd
  refine ⟨⟨o.sub, o.len, o.sto, o.nd, o.val, o.hold, o.apart, o.slen, o.fH, o.fF, o.le, o.fL, fun p hp => o.hid p (List.mem_cons_of_mem _ hp), nd.2⟩, ?_⟩
  obtain ⟨h1, h2, h3, ⟨_, h4, vs, rfl, h5⟩, h6⟩ := o.hid (D, .own acc) List.mem_cons_self
  exact ⟨D, vs, rfl, h1, h2, h3, h4, h5, h6, fun p hp e => nd.1 (List.mem_map.mpr ⟨p, hp, e⟩)⟩
/-- what is hidden is changed -/
theorem Okk.hset {H : Hp} {W : Gh} {r : Rho} {s : Sto} {D : Addr} {sl tl : Slot} (o : Okk C H0 W0 ((D, sl) :: T) W r s sg H) {ob : HO} (h : SltR C W tl ob) : Okk C H0 W0 ((D, tl) :: T) W r s sg (upd H D ob) := by
  obtain ⟨h1, h2, h3, ⟨_, h4, h5⟩, h6⟩ := o.hid (D, sl) List.mem_cons_self
  have nd := o.hnd
  rw [List.map_cons, List.nodup_cons] at nd
  refine ⟨fun c ob q => ?_, o.len, fun i c q => ?_, o.nd, o.val, fun i xs q b0 => ?_, o.apart, o.slen, fun c ob q hm => ?_, o.fF, o.le, o.fL, fun p hp => ?_, ?_⟩
  · rw [upd_ne (fun e => by subst e; rw [h1] at q; cases q)]
    exact o.sub c ob q
  · obtain ⟨g1, xs, ws, g2, g3, g4⟩ := o.sto i c q
    have ne : c ≠ D := fun e => h2 (e ▸ List.mem_iff_getElem?.mpr ⟨i, q⟩)
    exact ⟨g1, xs, ws, g2, by rw [upd_ne ne]; exact g3, g4⟩
  · obtain ⟨a, ws, g1, g2, g3, g4, g5, g6⟩ := o.hold i xs q b0
    have ne : a ≠ D := fun e => h6 i xs q b0 (by rw [← e]; exact g1)
    exact ⟨a, ws, g1, g2, g3, g4, by rw [upd_ne ne]; exact g5, g6⟩
  · rw [upd_ne (fun e => by subst e; rw [h3] at q; cases q)]
    exact o.fH c ob q hm
  · rcases List.mem_cons.mp hp with rfl | hp
    · exact ⟨h1, h2, h3, ⟨_, upd_same, h⟩, h6⟩
    · obtain ⟨g1, g2, g3, ⟨ws, g4, g5⟩, g6⟩ := o.hid p (List.mem_cons_of_mem _ hp)
      have ne : p.1 ≠ D := fun e => nd.1 (List.mem_map.mpr ⟨p, hp, e⟩)
      exact ⟨g1, g2, g3, ⟨ws, by rw [upd_ne ne]; exact g4, g5⟩, g6⟩
  · rw [List.map_cons, List.nodup_cons]
    exact nd
theorem Okk.unhideN {H : Hp} {W : Gh} {r : Rho} {s : Sto} {D : Addr} {sl : Slot} (o : Okk C H0 W0 ((D, sl) :: T) W r s sg H) : Okk C H0 W0 T W r s sg H ∧ NewR C H0 T sg W r H sl (.ref D) := by
  have nd := o.hnd
  rw [List.map_cons, List.nodup_cons] at nd
  refine ⟨⟨o.sub, o.len, o.sto, o.nd, o.val, o.hold, o.apart, o.slen, o.fH, o.fF, o.le, o.fL, fun p hp => o.hid p (List.mem_cons_of_mem _ hp), nd.2⟩, ?_⟩
  obtain ⟨h1, h2, h3, ⟨ob, h4, h5⟩, h6⟩ := o.hid (D, sl) List.mem_cons_self
  exact ⟨D, ob, rfl, h1, h2, h3, h4, h5, h6, fun p hp e => nd.1 (List.mem_map.mpr ⟨p, hp, e⟩)⟩
/-- another sight of the same state -/
theorem Okk.resee {H : Hp} {W : Gh} {r : Rho} {s : Sto} {sg' : L2.St} (o : Okk C H0 W0 T W r s sg H) (hl : sg'.length = sg.length) (h : ∀ (i : Nat) (x : Slot), r[i]? = some (some x) → sg'[i]? = sg[i]?) : Okk C H0 W0 T W r s sg' H := by
  refine ⟨o.sub, o.len, o.sto, o.nd, fun i v q => ?_, fun i xs q b0 => ?_, fun i j xs ys x q1 q2 b1 b2 e1 e2 => ?_, by rw [hl]; exact o.slen, o.fH, o.fF, o.le, o.fL, fun p hp => ?_, o.hnd⟩
  · obtain ⟨x, h1, h2⟩ := o.val i v q
    exact ⟨x, by rw [h i _ q]; exact h1, h2⟩
  · obtain ⟨a, vs, h1, h2⟩ := o.hold i xs q b0
    exact ⟨a, vs, by rw [h i _ q]; exact h1, h2⟩
  · rw [h i _ q1] at e1
    rw [h j _ q2] at e2
    exact o.apart i j xs ys x q1 q2 b1 b2 e1 e2
  · obtain ⟨h1, h2, h3, h4, h5⟩ := o.hid p hp
    exact ⟨h1, h2, h3, h4, fun i xs q b0 => by rw [h i _ q]; exact h5 i xs q b0⟩
theorem wipeR_get {r : Rho} {i : Nat} {x : Slot} : ∀ {is : List Nat}, (wipeR r is)[i]? = some (some x) → i ∉ is
  | [], _ => by simp
  | j :: is, h => by
    rw [wipeR] at h
    rcases set_get h with ⟨rfl, e, _⟩ | ⟨n, h⟩
    · cases e
    · rw [List.mem_cons, not_or]
      exact ⟨fun e => n e.symm, wipeR_get h⟩
theorem wipe_get {i : Nat} : ∀ {is : List Nat} {sg : L2.St}, i ∉ is → (L2.wipe sg is)[i]? = sg[i]?
  | [], _, _ => rfl
  | j :: is, sg, h => by
    rw [List.mem_cons, not_or] at h
    rw [L2.wipe, List.getElem?_set_ne (Ne.symm h.1)]
    exact wipe_get h.2
theorem eq_of_wipe {i : Nat} {is : List Nat} {s1 s2 : L2.St} (h : L2.wipe s1 is = L2.wipe s2 is) (hi : i ∉ is) : s1[i]? = s2[i]? := by
  rw [← wipe_get (sg := s1) hi, h, wipe_get hi]
def turnF (F : FT) (tg : List Nat) (cond : CO) (elt : CE) : Val → Rho → Sto → Rs (Option Val) := fun x r s => match bindT tg x r with
  | some r => (evC F cond r s).bind fun t r s => if t then (frz (evE F elt r s)).bind fun y r s => .ok (some y) (wipeR r tg) s else .ok none (wipeR r tg) s
  | none => .err
theorem peEx {I : Type} {e : Expr} {t : I → TE} (h : ∀ i, PE X e (t i)) : PE X e (fun sg H Q => ∃ i, t i sg H Q) := ⟨fun pins s sg H Q J ⟨i, q⟩ => (h i).run pins s sg H Q J q⟩
theorem ptsEx {I : Type} {e : List Expr} {t : I → TT} (h : ∀ i, PTs X e (t i)) : PTs X e (fun sg H Q => ∃ i, t i sg H Q) := ⟨fun s pins sg H Q J ⟨i, q⟩ => (h i).run s pins sg H Q J q⟩
theorem wipe_len (sg : L2.St) (is : List Nat) : (L2.wipe sg is).length = sg.length := L2.wipe_length sg is
theorem wipe_wipe (sg : L2.St) : ∀ is : List Nat, L2.wipe (L2.wipe sg is) is = L2.wipe sg is := fun is => by
  apply List.ext_getElem?
  intro j
  by_cases h : j ∈ is
  · have key : ∀ {is : List Nat} {s : L2.St}, j ∈ is → (L2.wipe s is)[j]? = if j < s.length then some none else none := fun {is} => by
      induction is with
      | nil => intro s h; simp at h
      | cons i is ih =>
        intro s h
        rw [L2.wipe]
        by_cases e : i = j
        · subst e
          by_cases hl : i < s.length
          · rw [List.getElem?_set_self (by rw [wipe_len]; exact hl), if_pos hl]
          · rw [List.getElem?_eq_none (by rw [List.length_set, wipe_len]; omega), if_neg hl]
        · rw [List.getElem?_set_ne e]
          exact ih ((List.mem_cons.mp h).resolve_left (fun q => e q.symm))
    rw [key h, key h, wipe_len]
  · rw [wipe_get h]
def lcEnd (x : Rs (List Val)) : Rs Rv := (noExc x).bind fun ys r s => .ok (.fr ys) r s
/-- a comprehension, by its turns -/
theorem lcT {gt : TG} {ci : CI} {tg : List Nat} {cond : CO} {ce : CE} {H : Hp} {Q : VK} (h : tR C H0 W0 T Wx (evE F (.lc ci tg cond ce)) sg H Q) :
    tLc (tIt C H0 W0 T Wx gt tg (evI F ci)) gt (fun sg H Q => ∃ T', tT C H0 W0 T' (fun _ _ _ _ => False) (evC F cond) sg H Q) (fun sg H Q => ∃ T', tV C H0 W0 T' (fun _ _ _ _ => False) (fun r s => frz (evE F ce r s)) sg H Q) tg sg H Q := by
  obtain ⟨W, r0, s0, o, p⟩ := h
  rw [evE] at p
  refine ⟨W, r0, s0, o, p.bind.imp ?_⟩
  rintro J G ⟨U, r1, s1, xs, l1, o1, wk, p1⟩
  intro D nD
  have p1 : Post C H0 W0 T Wx sg (RvR C H0 T sg) U Q (lcEnd (lcLoop (turnF F tg cond ce) xs [] (wipeR r1 tg) s1)) := p1
  refine ⟨fun i m H => m = xs.length - i ∧ i ≤ xs.length ∧ ∃ V r s acc, U.le V ∧ Okk C H0 W0 ((D, .own acc) :: T) V r s (L2.wipe sg tg) H ∧ (∀ (j : Nat) (x : Slot), r[j]? = some (some x) → j ∉ tg) ∧ Post C H0 W0 T Wx sg (RvR C H0 T sg) V Q (lcEnd (lcLoop (turnF F tg cond ce) (xs.drop i) acc r s)), ⟨xs.length, by simp, Nat.zero_le _, U, _, s1, [], Gh.le.refl _, (o1.hide nD).wipe tg, fun j x q => wipeR_get q, by rw [List.drop_zero]; exact p1⟩, ?_⟩
  rintro i m H1 ⟨rfl, hi, V, r, s, acc, lV, oV, hr, pV⟩
  by_cases hlt : i < xs.length
  · refine .inr ⟨wk.go i H1 (fun a ob q => oV.sub a ob (lV.2 a ob q)) hlt, fun H' => ∃ V r s acc, U.le V ∧ Okk C H0 W0 ((D, .own acc) :: T) V r s (L2.wipe sg tg) H' ∧ (∀ (j : Nat) (x : Slot), r[j]? = some (some x) → j ∉ tg) ∧ Post C H0 W0 T Wx sg (RvR C H0 T sg) V Q (lcEnd (lcLoop (turnF F tg cond ce) (xs.drop (i + 1)) acc r s)), fun H' n => ⟨xs.length - (i + 1), by omega, rfl, hlt, n⟩, ?_⟩
    intro x H' hy
    have ev : xs[i]? = some xs[i] := List.getElem?_eq_getElem hlt
    rw [List.drop_eq_getElem_cons hlt, lcLoop] at pV
    cases hb : bindT tg xs[i] r with
    | none => simp only [turnF, hb] at pV; exact pV.elim
    | some r' =>
      refine wk.yld H0 W0 ((D, .own acc) :: T) V r r' s _ H1 H' i x xs[i] oV lV hy ev hb _ ?_
      intro sg' o' we
      rw [wipe_wipe] at we
      refine ⟨we, (D, .own acc) :: T, V, r', s, o', ?_⟩
      simp only [turnF, hb] at pV
      revert pV
      cases evC F cond r' s with
      | err => exact fun pV => pV
      | exc e r s => exact fun pV => pV.elim
      | ok t r2 s2 =>
        intro pV V2 t' G2 l2 o2 et
        obtain rfl : t = t' := et
        cases t with
        | false =>
          rw [if_neg (by simp)]
          exact ⟨V2, wipeR r2 tg, s2, acc, lV.trans l2, by rw [← we]; exact o2.wipe tg, fun j x q => wipeR_get q, Post.mono l2 pV⟩
        | true =>
          rw [if_pos rfl]
          refine ⟨(D, .own acc) :: T, V2, r2, s2, o2, ?_⟩
          revert pV
          simp only [bind_ok, if_true]
          cases frz (evE F ce r2 s2) with
          | err => exact fun pV => pV
          | exc e r s => exact fun pV => pV.elim
          | ok y r3 s3 =>
            intro pV V3 y' G3 l3 o3 ry
            obtain ⟨vs, e1, e2, o4⟩ := o3.grow ry
            have pV : Post C H0 W0 T Wx sg (RvR C H0 T sg) V Q (lcEnd (if acc.length < sizeLine then lcLoop (turnF F tg cond ce) (xs.drop (i + 1)) (acc ++ [y]) (wipeR r3 tg) s3 else .err)) := pV
            split at pV
            · rename_i hz
              refine ⟨vs, e1, by omega, V3, wipeR r3 tg, s3, acc ++ [y], (lV.trans l2).trans l3, by rw [← we]; exact o4.wipe tg, fun j x q => wipeR_get q, Post.mono (l2.trans l3) pV⟩
            · exact pV.elim
  · have e : i = xs.length := by omega
    subst e
    refine .inl ⟨wk.stop _ H1 (fun a ob q => oV.sub a ob (lV.2 a ob q)) (Nat.le_refl _), ?_⟩
    rw [List.drop_length, lcLoop] at pV
    obtain ⟨o5, r5⟩ := (oV.resee (sg' := sg) (wipe_len sg tg).symm fun j x q => (wipe_get (hr j x q)).symm).unhide
    exact pV V _ H1 (Gh.le.refl _) o5 r5
abbrev blkE (X : Cx) (s : Shared) (H : Hp) (scope : Scope) (Ca : Addr) (cl : List (Str × Addr)) (fp : List Addr) : Cx := X.blk s H scope (compEnvC scope cl Ca X.env) fp
theorem sLc {tgE iter elt : Expr} {ifs : List Expr} {scope : Scope} {own : List (Str × Nat)} {pos : Pos} {gt : TG} {ci : CI} {tg : List Nat} {cond : CO} {ce : CE} (hc : X.calm = true) (hN : X.N.Nodup) (ok : BlkOk X.N X.env.scope scope own) (htg : own.map (·.2) = tg)
    (hi : PI X tgE iter (tIt C H0 W0 T Wx gt tg (evI F ci)))
    (hg : ∀ (s : Shared) (H : Hp) (Ca : Addr) (cl : List (Str × Addr)) (fp : List Addr), PG (blkE X s H scope Ca cl fp) tgE gt)
    (ht : ∀ (T' : Hid) (s : Shared) (H : Hp) (Ca : Addr) (cl : List (Str × Addr)) (fp : List Addr), PTs (blkE X s H scope Ca cl fp) ifs (tT C H0 W0 T' (fun _ _ _ _ => False) (evC F cond)))
    (he : ∀ (T' : Hid) (s : Shared) (H : Hp) (Ca : Addr) (cl : List (Str × Addr)) (fp : List Addr), PE (blkE X s H scope Ca cl fp) elt (tR C H0 W0 T' (fun _ _ _ _ => False) (evE F ce)))
    (hs : ∀ x, foldedSetIterable iter X.env x = pure x) :
    PE X (.ListComp elt [⟨tgE, iter, ifs, 0⟩] scope pos) (tR C H0 W0 T Wx (evE F (.lc ci tg cond ce))) := by
  subst htg
  exact (pe_lc hc hN hi ok hg (fun s H Ca cl fp => ptsEx fun T' => ht T' s H Ca cl fp) (fun s H Ca cl fp => peEx fun T' => peV (he T' s H Ca cl fp)) hs).conv fun sg H Q h => lcT h
end
end Gz
namespace Gz
open PySem PySem.Spec PyProof.Rows L2
/-! ### tests -/
section
variable {C : Cn} {H0 : Hp} {W0 : Gh} {T : Hid} {Wx : WX} {sg : L2.St} {X : Cx} {F : FT} {k : Nat} {P : Pr} {t : Ct}
theorem sNev {e : Expr} : PE X e (tR C H0 W0 T Wx (evE F .nev)) := ⟨fun _ _ _ _ _ _ ⟨_, _, _, _, p⟩ => by rw [evE] at p; exact p.elim⟩
theorem sNevT {e : Expr} : PT X e (tT C H0 W0 T Wx (tb (evE F .nev))) := ⟨fun _ _ _ _ _ _ ⟨_, _, _, _, p⟩ => by unfold tb at p; rw [evE] at p; exact p.elim⟩
theorem sValT {e : Expr} {ce : CE} (h : PE X e (tR C H0 W0 T Wx (evE F ce))) (he : ∀ whole, isTrue e X.env whole = (do let v ← whole; standAt e.pos; holding [v] (truthy v))) : PT X e (tT C H0 W0 T Wx (tb (evE F ce))) := by
  refine (pt_val h he).conv ?_
  rintro sg H Q ⟨W, r, s, o, p⟩
  exact ⟨W, r, s, o, tb_post p⟩
theorem tb_split {f : Bool → Rho → Sto → Rs Bool} {x : Rs Rv} {W : Gh} {Q : Bool → Hp → Prop} {g : Rv → Rho → Sto → Rs Bool} (hg : ∀ v r s, g v r s = match v with
    | .val (.bl c) => f c r s
    | _ => .err) (p : Post C H0 W0 T Wx sg BR W Q (x.bind g)) :
    Post C H0 W0 T Wx sg BR W (fun c G => ∃ U r s, Okk C H0 W0 T U r s sg G ∧ Post C H0 W0 T Wx sg BR U Q (f c r s)) (x.bind fun x r s => match x with
      | .val (.bl b) => .ok b r s
      | _ => .err) := by
  cases x with
  | err => exact p
  | exc e r s => exact p
  | ok v r s =>
    have p : Post C H0 W0 T Wx sg BR W Q (g v r s) := p
    rw [hg] at p
    cases v with
    | fr xs => exact p.elim
    | fd xs => exact p.elim
    | val v =>
      cases v with
      | bl c =>
        intro U b G l o e
        obtain rfl : c = b := e
        exact ⟨U, r, s, o, Post.mono l p⟩
      | _ => exact p.elim
theorem sNotT {a : Expr} {ca : CE} {pos : Pos} (ha : PT X a (tT C H0 W0 T Wx (tb (evE F ca)))) : PT X (.UnaryOp .Not a pos) (tT C H0 W0 T Wx (tb (evE F (.not ca)))) := by
  refine (pt_not ha).conv ?_
  rintro sg H Q ⟨W, r, s, o, p⟩
  unfold tb at p
  rw [evE] at p
  refine ⟨W, r, s, o, ?_⟩
  have p : Post C H0 W0 T Wx sg BR W Q ((evE F ca r s).bind fun x r s => (match x with
    | .val (.bl t) => Rs.ok (.val (.bl (!t))) r s
    | _ => .err : Rs Rv).bind fun x r s => match x with
      | .val (.bl b) => .ok b r s
      | _ => .err) := by
    revert p
    cases evE F ca r s <;> exact fun p => p
  refine (tb_split (f := fun c r s => .ok (!c) r s) ?_ p).imp ?_
  · intro v r s
    cases v with
    | fr xs => rfl
    | fd xs => rfl
    | val v => cases v <;> rfl
  · rintro c G ⟨U, r1, s1, o1, p1⟩
    exact p1 U _ G (Gh.le.refl _) o1 rfl
theorem bind_bind {a b c : Type} (x : Rs a) (f : a → Rho → Sto → Rs b) (g : b → Rho → Sto → Rs c) : (x.bind f).bind g = x.bind fun y r s => (f y r s).bind g := by cases x <;> rfl
theorem pwOf {op : BoolOp} {es : List Expr} {pos : Pos} {t : TT} (h : PT X (.BoolOp op es pos) t) : PW X (.BoolOp op es pos) t := ⟨fun wh pins s sg H Q I q => h.run pins s sg H Q I q⟩
theorem sAndT {a b : Expr} {rest : List Expr} {ca cb : CE} {pos : Pos} (ha : PT X a (tT C H0 W0 T Wx (tb (evE F ca)))) (hb : PT X (.BoolOp .And (b :: rest) pos) (tT C H0 W0 T Wx (tb (evE F cb)))) : PT X (.BoolOp .And (a :: b :: rest) pos) (tT C H0 W0 T Wx (tb (evE F (.and ca cb)))) := by
  refine (pw_and ha (pwOf hb)).pt.conv ?_
  rintro sg H Q ⟨W, r, s, o, p⟩
  unfold tb at p
  rw [evE, bind_bind] at p
  refine ⟨W, r, s, o, (tb_split (f := fun c r s => if c = true then tb (evE F cb) r s else .ok false r s) ?_ p).imp ?_⟩
  · intro v r s
    cases v with
    | fr xs => rfl
    | fd xs => rfl
    | val v =>
      cases v with
      | bl c => cases c <;> rfl
      | _ => rfl
  · rintro c G ⟨U, r1, s1, o1, p1⟩
    cases c with
    | true => exact ⟨U, r1, s1, o1, p1⟩
    | false => exact p1 U _ G (Gh.le.refl _) o1 rfl
theorem sOrT {a b : Expr} {rest : List Expr} {ca cb : CE} {pos : Pos} (ha : PT X a (tT C H0 W0 T Wx (tb (evE F ca)))) (hb : PT X (.BoolOp .Or (b :: rest) pos) (tT C H0 W0 T Wx (tb (evE F cb)))) : PT X (.BoolOp .Or (a :: b :: rest) pos) (tT C H0 W0 T Wx (tb (evE F (.or ca cb)))) := by
  refine (pw_or ha (pwOf hb)).pt.conv ?_
  rintro sg H Q ⟨W, r, s, o, p⟩
  unfold tb at p
  rw [evE, bind_bind] at p
  refine ⟨W, r, s, o, (tb_split (f := fun c r s => if c = true then .ok true r s else tb (evE F cb) r s) ?_ p).imp ?_⟩
  · intro v r s
    cases v with
    | fr xs => rfl
    | fd xs => rfl
    | val v =>
      cases v with
      | bl c => cases c <;> rfl
      | _ => rfl
  · rintro c G ⟨U, r1, s1, o1, p1⟩
    cases c with
    | true => exact p1 U _ G (Gh.le.refl _) o1 rfl
    | false => exact ⟨U, r1, s1, o1, p1⟩
theorem sAnd1T {op : BoolOp} {a : Expr} {t : TT} {pos : Pos} (ha : PT X a t) : PT X (.BoolOp op [a] pos) t := by
  cases op with
  | And => exact (pw_and1 ha).pt
  | Or => exact (pw_or1 ha).pt
theorem sChn (g : Cg C X) {a b c : Expr} {ca cb cc : CE} {o1 o2 : Cop} {pos : Pos} (ha : PE X a (tR C H0 W0 T Wx (evE F ca))) (hb : PE X b (tR C H0 W0 T Wx (evE F cb))) (hc : PE X c (tR C H0 W0 T Wx (evE F cc))) (hm : lastMarks [copOf o1, copOf o2] [b, c] = false) :
    PE X (.Compare a [copOf o1, copOf o2] [b, c] pos) (tR C H0 W0 T Wx (evE F (.chn o1 o2 ca cb cc))) := by
  refine (pe_chain (opCmp g o1) (opCmp g o2) (peV ha) (peV hb) (peV hc) hm).conv ?_
  rintro sg H Q ⟨W, r, s, o, p⟩
  exact chnP g o p
theorem sChnT (g : Cg C X) {a b c : Expr} {ca cb cc : CE} {o1 o2 : Cop} {pos : Pos} (ha : PE X a (tR C H0 W0 T Wx (evE F ca))) (hb : PE X b (tR C H0 W0 T Wx (evE F cb))) (hc : PE X c (tR C H0 W0 T Wx (evE F cc))) (hm : lastMarks [copOf o1, copOf o2] [b, c] = false) :
    PT X (.Compare a [copOf o1, copOf o2] [b, c] pos) (tT C H0 W0 T Wx (tb (evE F (.chn o1 o2 ca cb cc)))) := by
  refine (pt_chain (opCmp g o1) (opCmp g o2) (peV ha) (peV hb) (peV hc) hm).conv ?_
  rintro sg H Q ⟨W, r, s, o, p⟩
  exact chnP g o (tb_post p)
end
/-! ### statements -/
section
variable (C : Cn) (H0 : Hp) (W0 : Gh) (Wx : WX)
def PostS (W : Gh) (D : Ends) : Rs Fl → Prop
  | .ok fl r s => match fl with
    | .next => ∀ U sg G, W.le U → Okk C H0 W0 [] U r s sg G → D.nx sg G
    | .brk => ∀ U sg G, W.le U → Okk C H0 W0 [] U r s sg G → D.bk sg G
    | .cnt => ∀ U sg G, W.le U → Okk C H0 W0 [] U r s sg G → D.ct sg G
    | .ret v => ∀ U sg x G, W.le U → Okk C H0 W0 [] U r s sg G → RvR C H0 [] sg U r G v x → D.rt x G
  | .exc e r s => ∀ U cls d sg G, W.le U → Okk C H0 W0 [] U r s sg G → ExR C e cls d → Wx cls d sg G
  | .err => False
def tSt (ev : Rho → Sto → Rs Fl) : TS := fun D sg H => ∃ W r s, Okk C H0 W0 [] W r s sg H ∧ PostS C H0 W0 Wx W D (ev r s)
end
section
variable {C : Cn} {H0 : Hp} {W0 : Gh} {Wx : WX} {sg : L2.St} {X : Cx} {F : FT} {k : Nat} {P : Pr} {t : Ct}
theorem PostS.mono {W U : Gh} {D : Ends} {x : Rs Fl} (le : W.le U) (h : PostS C H0 W0 Wx W D x) : PostS C H0 W0 Wx U D x := by
  cases x with
  | ok fl r s =>
    cases fl with
    | next => exact fun V sg G l => h V sg G (le.trans l)
    | brk => exact fun V sg G l => h V sg G (le.trans l)
    | cnt => exact fun V sg G l => h V sg G (le.trans l)
    | ret v => exact fun V sg x G l => h V sg x G (le.trans l)
  | exc e r s => exact fun V c d sg G l => h V c d sg G (le.trans l)
  | err => exact h
theorem PostS.bind {a b : Type} {R : Gh → Rho → Hp → a → b → Prop} {W : Gh} {D : Ends} {x : Rs a} {f : a → Rho → Sto → Rs Fl} (h : PostS C H0 W0 Wx W D (x.bind f)) :
    Post C H0 W0 [] Wx sg R W (fun y G => ∃ U r s v, W.le U ∧ Okk C H0 W0 [] U r s sg G ∧ R U r G v y ∧ PostS C H0 W0 Wx U D (f v r s)) x := by
  cases x with
  | ok v r s => exact fun U y G l o q => ⟨U, r, s, v, l, o, q, PostS.mono l h⟩
  | exc e r s => exact fun U cls d G l o q => h U cls d sg G l o q
  | err => exact h
theorem zNev {st : Stmt} : PS X st (tSt C H0 W0 Wx (exS F .nev)) := ⟨fun _ _ _ _ _ _ ⟨_, _, _, _, p⟩ => by rw [exS] at p; exact p.elim⟩
theorem zPass {pos : Pos} : PS X (.Pass pos) (tSt C H0 W0 Wx (exS F .pass)) := by
  refine ps_pass.conv ?_
  rintro D sg H ⟨W, r, s, o, p⟩
  rw [exS] at p
  exact p W sg H (Gh.le.refl _) o
theorem zBrk {pos : Pos} : PS X (.Break pos) (tSt C H0 W0 Wx (exS F .brk)) := by
  refine ps_break.conv ?_
  rintro D sg H ⟨W, r, s, o, p⟩
  rw [exS] at p
  exact p W sg H (Gh.le.refl _) o
theorem zCnt {pos : Pos} : PS X (.Continue pos) (tSt C H0 W0 Wx (exS F .cnt)) := by
  refine ps_continue.conv ?_
  rintro D sg H ⟨W, r, s, o, p⟩
  rw [exS] at p
  exact p W sg H (Gh.le.refl _) o
theorem asgT {i : Nat} {ce : CE} {D : Ends} {H : Hp} (h : tSt C H0 W0 Wx (exS F (.asg i ce)) D sg H) : tAsg (tR C H0 W0 [] Wx (evE F ce)) (gName i) D sg H := by
  obtain ⟨W, r, s, o, p⟩ := h
  rw [exS] at p
  refine ⟨W, r, s, o, p.bind.imp ?_⟩
  rintro x G ⟨U, r1, s1, v, l1, o1, rx, p1⟩
  exact p1 U _ G (Gh.le.refl _) (o1.setR i rx)
theorem zAsg {i : Nat} {x : Str} {e : Expr} {ce : CE} {pos' pos : Pos} (hN : X.N.Nodup) (hi : X.N[i]? = some x) (hx : Loc X.env.scope x) (he : PE X e (tR C H0 W0 [] Wx (evE F ce))) (hs : swapsWith e (some (.Name x pos')) pos.line X.env = pure false) (hf : X.fn x = true ∨ X.env.scope.names.lookup x = some .local) :
    PS X (.Assign [.Name x pos'] e pos) (tSt C H0 W0 Wx (exS F (.asg i ce))) := (ps_set hN hi hx he hs hf).conv fun D sg H h => asgT h
theorem zAsgLc {i : Nat} {y : Str} {py : Pos} {tgE iter elt : Expr} {ifs : List Expr} {scope : Scope} {own : List (Str × Nat)} {pos spos : Pos} {gt : TG} {ci : CI} {tg : List Nat} {cond : CO} {ce : CE} (hc : X.calm = true) (hN : X.N.Nodup) (hy : X.N[i]? = some y) (hyl : X.env.scope.names.lookup y = some .local)
    (hsw : swapsWith (.ListComp elt [⟨tgE, iter, ifs, 0⟩] scope pos) (some (.Name y py)) spos.line X.env = pure true) (ok : BlkOk X.N X.env.scope scope own) (htg : own.map (·.2) = tg)
    (hi : PI X tgE iter (tIt C H0 W0 [] Wx gt tg (evI F ci)))
    (hg : ∀ (s : Shared) (H : Hp) (Ca : Addr) (cl : List (Str × Addr)) (fp : List Addr), PG (blkE X s H scope Ca cl fp) tgE gt)
    (ht : ∀ (T' : Hid) (s : Shared) (H : Hp) (Ca : Addr) (cl : List (Str × Addr)) (fp : List Addr), PTs (blkE X s H scope Ca cl fp) ifs (tT C H0 W0 T' (fun _ _ _ _ => False) (evC F cond)))
    (he : ∀ (T' : Hid) (s : Shared) (H : Hp) (Ca : Addr) (cl : List (Str × Addr)) (fp : List Addr), PE (blkE X s H scope Ca cl fp) elt (tR C H0 W0 T' (fun _ _ _ _ => False) (evE F ce)))
    (hs : ∀ x, foldedSetIterable iter X.env x = pure x) :
    PS X (.Assign [.Name y py] (.ListComp elt [⟨tgE, iter, ifs, 0⟩] scope pos) spos) (tSt C H0 W0 Wx (exS F (.asg i (.lc ci tg cond ce)))) := by
  subst htg
  refine (ps_setLc hc hN hy hyl hsw hi ok hg (fun s H Ca cl fp => ptsEx fun T' => ht T' s H Ca cl fp) (fun s H Ca cl fp => peEx fun T' => peV (he T' s H Ca cl fp)) hs).conv ?_
  intro D sg H h
  exact lcT (asgT h)
theorem zAsgT {is : List Nat} {tg e : Expr} {ce : CE} {g : TG} {pos : Pos} (hn : is.length ≠ 1) (ht : Tgt C.K is g) (he : PE X e (tR C H0 W0 [] Wx (evE F ce))) (hg : PG X tg g) (hs : swapsWithSole [tg] e pos.line X.env = pure false) (hw : swappedStores [tg] e X.env = pure none) (h1 : (assignEach [tg] X.env).map (·.2) = [assign tg X.env]) :
    PS X (.Assign [tg] e pos) (tSt C H0 W0 Wx (exS F (.asgT is ce))) := by
  refine (ps_asg (peV he) hg hs hw h1).conv ?_
  rintro D sg H ⟨W, r, s, o, p⟩
  rw [exS] at p
  refine ⟨W, r, s, o, p.bind.imp ?_⟩
  rintro x G ⟨U, r1, s1, v, l1, o1, rx, p1⟩
  cases v with
  | tup xs =>
    have p1 : PostS C H0 W0 Wx U D (if xs.length = is.length then _ else _) := p1
    split at p1
    · rename_i hl
      have hb : bindT is (.tup xs) r1 = some ((is.zip xs).foldl (fun r p => r.set p.1 (some (.val p.2))) r1) := by
        unfold bindT
        split
        · simp at hn
        · simp [hl]
      exact ht.take o1 rx hb fun sg' o' _ => p1 U sg' G (Gh.le.refl _) o'
    · exact p1.elim
  | _ => exact p1.elim
theorem zExp {e : Expr} {ce : CE} {pos : Pos} (he : PE X e (tR C H0 W0 [] Wx (evE F ce))) (hs : swapsWith e none pos.line X.env = pure false) : PS X (.Expr e pos) (tSt C H0 W0 Wx (exS F (.exp ce))) := by
  refine (ps_expr he hs).conv ?_
  rintro D sg H ⟨W, r, s, o, p⟩
  rw [exS] at p
  refine ⟨W, r, s, o, p.bind.imp ?_⟩
  rintro x G ⟨U, r1, s1, v, l1, o1, rx, p1⟩
  exact p1 U _ G (Gh.le.refl _) o1
theorem zRet {e : Expr} {ce : CE} {pos : Pos} (he : PE X e (tR C H0 W0 [] Wx (evE F ce))) : PS X (.Return (some e) pos) (tSt C H0 W0 Wx (exS F (.ret ce))) := by
  refine (ps_ret he).conv ?_
  rintro D sg H ⟨W, r, s, o, p⟩
  rw [exS] at p
  refine ⟨W, r, s, o, p.bind.imp ?_⟩
  rintro x G ⟨U, r1, s1, v, l1, o1, rx, p1⟩
  exact p1 U _ _ G (Gh.le.refl _) o1 rx
theorem zRetN {pos : Pos} : PS X (.Return none pos) (tSt C H0 W0 Wx (exS F .retN)) := by
  refine ps_retN.conv ?_
  rintro D sg H ⟨W, r, s, o, p⟩
  rw [exS] at p
  exact p W sg .non H (Gh.le.refl _) o (by show Rep C W .non .non; rw [Rep])
theorem zRetV {i : Nat} {x : Str} {p0 pos : Pos} (hN : X.N[i]? = some x) (hv : Vis X.env.scope x) (hd : (x == ("__debug__" : Str)) = false) (hcd : (x == ("__classdict__" : Str)) = false) : PS X (.Return (some (.Name x p0)) pos) (tSt C H0 W0 Wx (exS F (.retV i))) := by
  refine (ps_ret (pe_var hN hv hd hcd)).conv ?_
  rintro D sg H ⟨W, r, s, o, p⟩
  rw [exS] at p
  split at p
  · rename_i v q
    obtain ⟨y, h1, h2⟩ := o.val i v q
    exact ⟨y, h1, p W sg y H (Gh.le.refl _) o h2⟩
  · rename_i xs q
    obtain ⟨y, h1, h2⟩ := o.ownR q
    exact ⟨y, h1, p W sg y H (Gh.le.refl _) (o.drop i) h2⟩
  · rename_i xs q
    obtain ⟨y, h1, h2⟩ := o.dicR q
    exact ⟨y, h1, p W sg y H (Gh.le.refl _) (o.drop i) h2⟩
  · exact p.elim
theorem zIf {c : Expr} {a b : List Stmt} {cc : CE} {ca cb : CSs} {pos : Pos} (hc : PT X c (tT C H0 W0 [] Wx (tb (evE F cc)))) (ha : PSs X a (tSt C H0 W0 Wx (exB F ca))) (hb : PSs X b (tSt C H0 W0 Wx (exB F cb))) : PS X (.If c a b pos) (tSt C H0 W0 Wx (exS F (.ifs cc ca cb))) := by
  refine (ps_if hc ha hb).conv ?_
  rintro D sg H ⟨W, r, s, o, p⟩
  rw [exS, evC] at p
  refine ⟨W, r, s, o, p.bind.imp ?_⟩
  rintro x G ⟨U, r1, s1, v, l1, o1, rx, p1⟩
  obtain rfl : v = x := rx
  cases v with
  | true => exact ⟨U, r1, s1, o1, p1⟩
  | false => exact ⟨U, r1, s1, o1, p1⟩
theorem zNil : PSs X [] (tSt C H0 W0 Wx (exB F .nil)) := by
  refine pss_nil.conv ?_
  rintro D sg H ⟨W, r, s, o, p⟩
  rw [exB] at p
  exact p W sg H (Gh.le.refl _) o
theorem zCons {st : Stmt} {rest : List Stmt} {c : CS} {cs : CSs} (h1 : PS X st (tSt C H0 W0 Wx (exS F c))) (h2 : PSs X rest (tSt C H0 W0 Wx (exB F cs))) : PSs X (st :: rest) (tSt C H0 W0 Wx (exB F (.cons c cs))) := by
  refine (pss_cons h1 h2).conv ?_
  rintro D sg H ⟨W, r, s, o, p⟩
  rw [exB] at p
  refine ⟨W, r, s, o, ?_⟩
  revert p
  cases exS F c r s with
  | err => exact fun p => p
  | exc e r s => exact fun p => p
  | ok fl r1 s1 =>
    intro p
    cases fl with
    | next => exact fun U sg' G l o1 => ⟨U, r1, s1, o1, PostS.mono l p⟩
    | brk => exact p
    | cnt => exact p
    | ret v => exact p
def turnB (F : FT) (tg : List Nat) (b : CSs) : Val → Rho → Sto → Rs Fl := fun x r s => match bindT tg x r with
  | some r => exB F b r s
  | none => .err
theorem zFor {tgE iter : Expr} {body : List Stmt} {gt : TG} {tg : List Nat} {ci : CI} {cb : CSs} {pos : Pos} (hp : PassesOwn (model X.prog X.w) X.A X.env X.xe) (hc : X.calm = true) (hi : PI X tgE iter (tIt C H0 W0 [] Wx gt tg (evI F ci))) (hg : PG X tgE gt) (hb : PSs X body (tSt C H0 W0 Wx (exB F cb)))
    (hs : ∀ x, foldedSetIterable iter X.env x = pure x) : PS X (.For tgE iter body [] pos) (tSt C H0 W0 Wx (exS F (.for_ tg ci cb))) := by
  refine (ps_for hp hc hi hg hb hs).conv ?_
  rintro D sg H ⟨W, r0, s0, o, p⟩
  rw [exS] at p
  refine ⟨W, r0, s0, o, p.bind.imp ?_⟩
  rintro J G ⟨U, r1, s1, xs, l1, o1, wk, p1⟩
  have p1 : PostS C H0 W0 Wx U D (forLoop (turnB F tg cb) xs r1 s1) := p1
  refine ⟨fun i m sg H => m = xs.length - i ∧ i ≤ xs.length ∧ ∃ V r s, U.le V ∧ Okk C H0 W0 [] V r s sg H ∧ PostS C H0 W0 Wx V D (forLoop (turnB F tg cb) (xs.drop i) r s), ⟨xs.length, by simp, Nat.zero_le _, U, r1, s1, Gh.le.refl _, o1, by rw [List.drop_zero]; exact p1⟩, ?_⟩
  rintro i m sg1 H1 ⟨rfl, hi, V, r, s, lV, oV, pV⟩
  by_cases hlt : i < xs.length
  · refine .inr ⟨wk.go i H1 (fun a ob q => oV.sub a ob (lV.2 a ob q)) hlt, fun sg' H' => ∃ V r s, U.le V ∧ Okk C H0 W0 [] V r s sg' H' ∧ PostS C H0 W0 Wx V D (forLoop (turnB F tg cb) (xs.drop (i + 1)) r s), fun sg' H' n => ⟨xs.length - (i + 1), by omega, rfl, hlt, n⟩, ?_⟩
    intro x H' hy
    have ev : xs[i]? = some xs[i] := List.getElem?_eq_getElem hlt
    rw [List.drop_eq_getElem_cons hlt, forLoop] at pV
    cases hb : bindT tg xs[i] r with
    | none => simp only [turnB, hb] at pV; exact pV.elim
    | some r' =>
      refine wk.yld H0 W0 [] V r r' s _ H1 H' i x xs[i] oV lV hy ev hb _ ?_
      intro sg' o' _
      refine ⟨V, r', s, o', ?_⟩
      simp only [turnB, hb] at pV
      revert pV
      cases exB F cb r' s with
      | err => exact fun pV => pV
      | exc e r s => exact fun pV => pV
      | ok fl r2 s2 =>
        intro pV
        cases fl with
        | next => exact fun V2 sg2 G2 l2 o2 => ⟨V2, r2, s2, lV.trans l2, o2, PostS.mono l2 pV⟩
        | cnt => exact fun V2 sg2 G2 l2 o2 => ⟨V2, r2, s2, lV.trans l2, o2, PostS.mono l2 pV⟩
        | brk => exact pV
        | ret v => exact pV
  · have e : i = xs.length := by omega
    subst e
    refine .inl ⟨wk.stop _ H1 (fun a ob q => oV.sub a ob (lV.2 a ob q)) (Nat.le_refl _), ?_⟩
    rw [List.drop_length, forLoop] at pV
    exact pV V _ H1 (Gh.le.refl _) oV
theorem zSetD (g : Cg C X) {i : Nat} {x : Str} {kE e : Expr} {ck ce : CE} {p1 p2 pos : Pos} (hN : X.N[i]? = some x) (hv : Vis X.env.scope x) (hd : (x == ("__debug__" : Str)) = false) (hcd : (x == ("__classdict__" : Str)) = false) (hk : PE X kE (tR C H0 W0 [] Wx (evE F ck))) (he : PE X e (tR C H0 W0 [] Wx (evE F ce)))
    (hs : swapsWith e (some (.Subscript (.Name x p1) kE p2)) pos.line X.env = pure false) :
    PS X (.Assign [.Subscript (.Name x p1) kE p2] e pos) (tSt C H0 W0 Wx (exS F (.setD i ck ce))) := by
  have un := g.un
  refine (ps_dput (by omega) (pe_var hN hv hd hcd) (peV hk) (peV he) hs).conv ?_
  rintro D sg H ⟨W, r, s, o, p⟩
  rw [exS] at p
  refine ⟨W, r, s, o, p.bind.imp ?_⟩
  rintro y G ⟨U, r1, s1, v, l1, o1, ry, p1⟩
  split at p1
  · rename_i hl
    obtain ⟨kvs0, q0⟩ : ∃ kvs, r1[i]? = some (some (.dic kvs)) := by
      unfold dicy at hl
      split at hl
      · rename_i kvs q
        exact ⟨kvs, q⟩
      · cases hl
    obtain ⟨a, ks0, h1, _, _, _, h5, _⟩ := o1.dic i kvs0 q0
    refine ⟨.ref a, h1, U, r1, s1, o1, p1.bind.imp ?_⟩
    rintro z G2 ⟨U2, r2, s2, w, l2, o2, rz, p2⟩
    split at p2
    · rename_i kvs n q
      split at p2
      · rename_i hz
        obtain rfl := rep_int (C := C) (W := U2) rz
        obtain ⟨b, ks, g1, g2, g3, g4, g5, g6⟩ := o2.dic i kvs q
        rw [h1] at g1
        cases g1
        refine ⟨a, _, rfl, DPut.k (k := .inl n) g5 (by rw [← g6.len]; exact hz), ?_⟩
        exact p2 U2 _ _ (Gh.le.refl _) (o2.dicSet q h1 (g6.put (ry.mono l2)))
      · exact p2.elim
    · exact p2.elim
  · exact p1.elim
theorem zSet {i : Nat} {x : Str} {kE e : Expr} {ck ce : CE} {p1 p2 pos : Pos} (hN : X.N[i]? = some x) (hv : Vis X.env.scope x) (hd : (x == ("__debug__" : Str)) = false) (hcd : (x == ("__classdict__" : Str)) = false) (hk : PE X kE (tR C H0 W0 [] Wx (evE F ck))) (he : PE X e (tR C H0 W0 [] Wx (evE F ce)))
    (ha : ∀ v, assign (.Subscript (.Name x p1) kE p2) X.env v = (do
      let ov ← holding [v] (eval (.Name x p1) X.env)
      let iv ← holding [v, ov] (eval kE X.env)
      standAt p2
      holding [v, ov, iv] (setItem ov iv v)
      release [v, ov, iv] [])) (hs : swapsWithSole [.Subscript (.Name x p1) kE p2] e pos.line X.env = pure false) (hw : swappedStores [.Subscript (.Name x p1) kE p2] e X.env = pure none) :
    PS X (.Assign [.Subscript (.Name x p1) kE p2] e pos) (tSt C H0 W0 Wx (exS F (.set i ck ce))) := by
  refine (ps_asg (peV he) (pg_sub (pe_var hN hv hd hcd) (peV hk) set_list ha) hs hw rfl).conv ?_
  rintro D sg H ⟨W, r, s, o, p⟩
  rw [exS] at p
  refine ⟨W, r, s, o, p.bind.imp ?_⟩
  rintro y G ⟨U, r1, s1, v, l1, o1, ry, p1⟩
  split at p1
  · rename_i hl
    obtain ⟨a, vs, e1, e2⟩ := o1.listy hl
    refine ⟨.ref a, e1, U, r1, s1, o1, p1.bind.imp ?_⟩
    rintro z G2 ⟨U2, r2, s2, w, l2, o2, rz, p2⟩
    split at p2
    · rename_i xs k hr
      obtain rfl := rep_int (C := C) (W := U2) rz
      obtain ⟨b, ws, g1, g2, g3, g4, g5, g6⟩ := o2.own i xs hr
      rw [e1] at g1
      cases g1
      split at p2
      · rename_i j hj
        refine ⟨a, ws, k, j, rfl, rfl, g5, by rw [← g6.length]; exact hj, ?_⟩
        exact p2 U2 _ _ (Gh.le.refl _) (o2.ownSet hr e1 (g6.set j (ry.mono l2)))
      · exact p2.elim
    · rename_i l k hr
      obtain rfl := rep_int (C := C) (W := U2) rz
      obtain ⟨u, g1, g2⟩ := o2.val i _ hr
      rw [e1] at g1
      cases g1
      rw [Rep] at g2
      obtain ⟨b, g3, g4⟩ := g2
      cases g3
      obtain ⟨_, xs, ws, h2, h3, h4⟩ := o2.sto l a g4
      rw [h2] at p2
      dsimp only at p2
      split at p2
      · rename_i j hj
        refine ⟨a, ws, k, j, rfl, rfl, h3, by rw [← h4.length]; exact hj, ?_⟩
        exact p2 U2 _ _ (Gh.le.refl _) (o2.locSet g4 (h4.set j (ry.mono l2)))
      · exact p2.elim
    · exact p2.elim
  · exact p1.elim
end
end Gz
namespace Gz
open PySem PySem.Spec PyProof.Rows L2
/-! ### several names side by side -/
/-- lists that are new, hidden until they are stored -/
inductive Held (C : Cn) (U : Gh) : Hid → List Rv → List V → Hid → Prop
  | nil (T : Hid) : Held C U T [] [] T
  | val {T T' : Hid} {v : Val} {x : V} {vs : List Rv} {xs : List V} (h : Rep C U v x) (r : Held C U T vs xs T') : Held C U T (.val v :: vs) (x :: xs) T'
  | nw {T T' : Hid} {v : Rv} {D : Addr} {vs : List Rv} {xs : List V} (hv : v.slot.held = true) (r : Held C U ((D, v.slot) :: T) vs xs T') : Held C U T (v :: vs) (.ref D :: xs) T'
section
variable {C : Cn} {H0 : Hp} {W0 : Gh} {T : Hid} {Wx : WX} {sg : L2.St} {X : Cx} {F : FT} {k : Nat} {P : Pr} {t : Ct}
theorem Held.mono {W U : Gh} {T T' : Hid} {vs : List Rv} {xs : List V} (l : W.le U) (h : Held C W T vs xs T') : Held C U T vs xs T' := by
  induction h with
  | nil T => exact .nil T
  | val h _ ih => exact .val (h.mono l) ih
  | nw hv _ ih => exact .nw hv ih
theorem Held.pre {U : Gh} {T T' : Hid} {vs : List Rv} {xs : List V} (h : Held C U T vs xs T') : ∃ pre : Hid, T' = pre ++ T ∧ ∀ T1, Held C U T1 vs xs (pre ++ T1) := by
  induction h with
  | nil T => exact ⟨[], rfl, fun T1 => .nil T1⟩
  | val h _ ih =>
    obtain ⟨pre, e, f⟩ := ih
    exact ⟨pre, e, fun T1 => .val h (f T1)⟩
  | @nw T T' v D vs xs hv _ ih =>
    obtain ⟨pre, e, f⟩ := ih
    refine ⟨pre ++ [(D, v.slot)], by rw [e, List.append_assoc]; rfl, fun T1 => ?_⟩
    rw [List.append_assoc]
    exact .nw hv (f ((D, v.slot) :: T1))
theorem Held.length {U : Gh} {T T' : Hid} {vs : List Rv} {xs : List V} (h : Held C U T vs xs T') : vs.length = xs.length := by
  induction h with
  | nil => rfl
  | val _ _ ih => rw [List.length_cons, List.length_cons, ih]
  | nw _ _ ih => rw [List.length_cons, List.length_cons, ih]
theorem Okk.hideN {H : Hp} {W : Gh} {r : Rho} {s : Sto} (o : Okk C H0 W0 T W r s sg H) {sl : Slot} {x : V} (h : NewR C H0 T sg W r H sl x) : ∃ D, x = .ref D ∧ Okk C H0 W0 ((D, sl) :: T) W r s sg H := by
  obtain ⟨D, ob, rfl, h1, h2, h3, h4, h5, h6, h7⟩ := h
  refine ⟨D, rfl, ⟨o.sub, o.len, o.sto, o.nd, o.val, o.hold, o.apart, o.slen, o.fH, o.fF, o.le, o.fL, fun p hp => ?_, ?_⟩⟩
  · rcases List.mem_cons.mp hp with rfl | hp
    · exact ⟨h1, h2, h3, ⟨ob, h4, h5⟩, h6⟩
    · exact o.hid p hp
  · rw [List.map_cons, List.nodup_cons]
    refine ⟨fun hm => ?_, o.hnd⟩
    obtain ⟨p, hp, e⟩ := List.mem_map.mp hm
    exact h7 p hp e
theorem Okk.unhideM {H : Hp} {W : Gh} {r : Rho} {s : Sto} {D : Addr} {sl : Slot} {pre : Hid} (o : Okk C H0 W0 (pre ++ (D, sl) :: T) W r s sg H) : Okk C H0 W0 (pre ++ T) W r s sg H ∧ NewR C H0 (pre ++ T) sg W r H sl (.ref D) := by
  have nd := o.hnd
  rw [List.map_append, List.map_cons, List.nodup_append] at nd
  obtain ⟨n1, n2, n3⟩ := nd
  rw [List.nodup_cons] at n2
  refine ⟨⟨o.sub, o.len, o.sto, o.nd, o.val, o.hold, o.apart, o.slen, o.fH, o.fF, o.le, o.fL, fun p hp => o.hid p ?_, ?_⟩, ?_⟩
  · rcases List.mem_append.mp hp with h | h
    · exact List.mem_append_left _ h
    · exact List.mem_append_right _ (List.mem_cons_of_mem _ h)
  · rw [List.map_append, List.nodup_append]
    exact ⟨n1, n2.2, fun a ha b hb => n3 a ha b (List.mem_cons_of_mem _ hb)⟩
  · obtain ⟨h1, h2, h3, ⟨ob, h4, h5⟩, h6⟩ := o.hid (D, sl) (List.mem_append_right _ List.mem_cons_self)
    refine ⟨D, ob, rfl, h1, h2, h3, h4, h5, h6, fun p hp e => ?_⟩
    rcases List.mem_append.mp hp with h | h
    · exact n3 p.1 (List.mem_map.mpr ⟨p, h, rfl⟩) D List.mem_cons_self e
    · exact n2.1 (List.mem_map.mpr ⟨p, h, e⟩)
theorem sDctE {kE e : Expr} {ck ce : CE} {pos : Pos} (hk : ∀ T, PE X kE (tR C H0 W0 T Wx (evE F ck))) (he : ∀ T, PE X e (tR C H0 W0 T Wx (evE F ce))) : PE X (.Dict [some kE] [e] pos) (tR C H0 W0 T Wx (evE F (.dctE ck ce))) := by
  refine (pe_disp (pps_cons (peEx fun T => peV (hk T)) (peEx fun T => peV (he T)) pps_nil) rfl rfl (fun z => by cases z) (by show 1 ≤ 15; decide)).conv ?_
  rintro sg H Q ⟨W, r, s, o, p⟩
  rw [evE] at p
  intro q nq
  have o0 := o.newL nq (.dK [])
  obtain ⟨D, e0, o1⟩ := o0.hideN ((RvR.new (v := .fd []) rfl).mp (o.newRD nq (repK_nil.mpr rfl)))
  cases e0
  refine ⟨(q, .dic []) :: T, W, r, s, o1, ?_⟩
  show Post _ _ _ _ _ _ _ _ _ (frz (evE F ck r s))
  revert p
  cases frz (evE F ck r s) with
  | err => exact fun p => p
  | exc ex r1 s1 => exact fun p U cls d G l o2 z => p U cls d G l o2.unhideN.1 z
  | ok v r1 s1 =>
    intro p U x G l o2 rx
    have rx : Rep C U v x := rx
    refine ⟨(q, .dic []) :: T, U, r1, s1, o2, ?_⟩
    have p := Post.mono l p
    show Post _ _ _ _ _ _ _ _ _ (frz (evE F ce r1 s1))
    revert p
    rw [bind_ok]
    cases frz (evE F ce r1 s1) with
    | err => exact fun p => p
    | exc ex r2 s2 => exact fun p V cls d G2 l2 o3 z => p V cls d G2 l2 o3.unhideN.1 z
    | ok w r2 s2 =>
      intro p V y G2 l2 o3 ry
      have ry : Rep C V w y := ry
      rw [bind_ok] at p
      cases v with
      | int n =>
        obtain rfl := rep_int rx
        obtain ⟨_, _, _, ⟨ob, z4, ks, z5, z6⟩, _⟩ := o3.hid (q, .dic []) List.mem_cons_self
        rw [repK_nil.mp z6] at z5
        subst z5
        refine ⟨z4, [(.inl n, y)], rfl, (by show 1 ≤ 15; decide), ?_⟩
        have o4 := o3.hset (tl := .dic [(.inl n, w)]) (ob := .dK (mergeK [] [(.inl n, y)])) ⟨_, rfl, repK_cons.mpr ⟨y, [], rfl, ry, repK_nil.mpr rfl⟩⟩
        obtain ⟨o5, nr⟩ := o4.unhideN
        exact p V _ _ l2 o5 ((RvR.new (v := .fd [(.inl n, w)]) rfl).mpr nr)
      | _ => exact p.elim
theorem stV_slot {i : Nat} {v : Rv} {r : Rho} : stV i v r = r.set i (some v.slot) := by cases v <;> rfl
/-- all are stored -/
theorem Okk.stores {H : Hp} {U : Gh} {s : Sto} : ∀ {vs : List Rv} {xs : List V} {T' T : Hid} {is : List Nat} {r : Rho} {sg : L2.St} (_ : Okk C H0 W0 T' U r s sg H) (_ : Held C U T vs xs T') (_ : vs.length = is.length),
    Okk C H0 W0 T U ((is.zip vs).foldl (fun r p => stV p.1 p.2 r) r) s ((is.zip xs).foldl (fun g p => g.set p.1 (some p.2)) sg) H
  | [], _, _, _, is, r, sg, o, h, hl => by
    cases h
    obtain rfl : is = [] := List.length_eq_zero_iff.mp hl.symm
    exact o
  | v :: vs, _, _, _, [], r, sg, o, h, hl => by simp at hl
  | v :: vs, _, T', T, i :: is, r, sg, o, h, hl => by
    cases h with
    | val hr h =>
      have z := Okk.stores (o.setV i hr) h (is := is) (by simpa using hl)
      exact z
    | nw hv h =>
      obtain ⟨pre, rfl, f⟩ := h.pre
      obtain ⟨o2, q⟩ := o.unhideM
      have z := Okk.stores (o2.setN i hv q) (f T) (is := is) (by simpa using hl)
      rw [← stV_slot] at z
      exact z
def PostP (C : Cn) (H0 : Hp) (W0 : Gh) (Wx : WX) (sg : L2.St) (T : Hid) (W : Gh) (Q : List V → Hp → Prop) : Rs (List Rv) → Prop
  | .ok vs r s => ∀ U xs T' G, W.le U → Okk C H0 W0 T' U r s sg G → Held C U T vs xs T' → Q xs G
  | .exc e r s => ∀ U T' cls d G, W.le U → Okk C H0 W0 T' U r s sg G → ExR C e cls d → Wx cls d sg G
  | .err => False
theorem PostP.mono {W U : Gh} {Q : List V → Hp → Prop} {x : Rs (List Rv)} (le : W.le U) (h : PostP C H0 W0 Wx sg T W Q x) : PostP C H0 W0 Wx sg T U Q x := by
  cases x with
  | ok v r s => exact fun V y T' G l => h V y T' G (le.trans l)
  | exc e r s => exact fun V T' y d G l => h V T' y d G (le.trans l)
  | err => exact h
def tP (C : Cn) (H0 : Hp) (W0 : Gh) (Wx : WX) (ev : Rho → Sto → Rs (List Rv)) : TA := fun sg H Q => ∃ T W r s, Okk C H0 W0 T W r s sg H ∧ PostP C H0 W0 Wx sg T W Q (ev r s)
theorem sPNil : PA X [] (tP C H0 W0 Wx (evP F .nil)) := by
  refine pa_nil.conv ?_
  rintro sg H Q ⟨T, W, r, s, o, p⟩
  rw [evP] at p
  exact p W [] T H (Gh.le.refl _) o (.nil T)
theorem sPCons {e : Expr} {es : List Expr} {c : CE} {cs : CEs} (he : ∀ T, PE X e (tR C H0 W0 T Wx (evE F c))) (hs : PA X es (tP C H0 W0 Wx (evP F cs))) (hst : starEach (e :: es) X.env = (false, eval e X.env) :: starEach es X.env) : PA X (e :: es) (tP C H0 W0 Wx (evP F (.cons c cs))) := by
  refine (pa_cons (peEx he) hs hst).conv ?_
  rintro sg H Q ⟨T, W, r, s, o, p⟩
  rw [evP] at p
  refine ⟨T, W, r, s, o, ?_⟩
  revert p
  cases evE F c r s with
  | err => exact fun p => p
  | exc e r s => exact fun p U cls d G l o q => p U T cls d G l o q
  | ok v r1 s1 =>
    intro p U x G l o1 rx
    have p := PostP.mono l p
    cases v with
    | val v =>
      refine ⟨T, U, r1, s1, o1, ?_⟩
      revert p
      rw [bind_ok]
      cases evP F cs r1 s1 with
      | err => exact fun p => p
      | exc e r s => exact fun p => p
      | ok vs r2 s2 => exact fun p V xs T' G2 l2 o2 h => p V (x :: xs) T' G2 l2 o2 (.val (Rep.mono l2 rx) h)
    | fr ys =>
      obtain ⟨D, rfl, o1⟩ := o1.hideN ((RvR.new (v := .fr ys) rfl).mp rx)
      refine ⟨(D, .own ys) :: T, U, r1, s1, o1, ?_⟩
      revert p
      rw [bind_ok]
      cases evP F cs r1 s1 with
      | err => exact fun p => p
      | exc e r s => exact fun p => p
      | ok vs r2 s2 => exact fun p V xs T' G2 l2 o2 h => p V (.ref D :: xs) T' G2 l2 o2 (.nw (v := .fr ys) rfl h)
    | fd ys =>
      obtain ⟨D, rfl, o1⟩ := o1.hideN ((RvR.new (v := .fd ys) rfl).mp rx)
      refine ⟨(D, .dic ys) :: T, U, r1, s1, o1, ?_⟩
      revert p
      rw [bind_ok]
      cases evP F cs r1 s1 with
      | err => exact fun p => p
      | exc e r s => exact fun p => p
      | ok vs r2 s2 => exact fun p V xs T' G2 l2 o2 h => p V (.ref D :: xs) T' G2 l2 o2 (.nw (v := .fd ys) rfl h)
theorem Okk.bare {H : Hp} {W : Gh} {r : Rho} {s : Sto} (o : Okk C H0 W0 T W r s sg H) : Okk C H0 W0 [] W r s sg H :=
  ⟨o.sub, o.len, o.sto, o.nd, o.val, o.hold, o.apart, o.slen, o.fH, o.fF, o.le, o.fL, fun p hp => by simp at hp, List.nodup_nil⟩
theorem parP {is : List Nat} {cs : CEs} {D : Ends} {H : Hp} (h : tSt C H0 W0 Wx (exS F (.par is cs)) D sg H) :
    tP C H0 W0 Wx (evP F cs) sg H fun xs G => xs.length = is.length ∧ D.nx ((is.zip xs).foldl (fun g p => g.set p.1 (some p.2)) sg) G := by
  obtain ⟨W, r, s, o, p⟩ := h
  rw [exS] at p
  refine ⟨[], W, r, s, o, ?_⟩
  revert p
  cases evP F cs r s with
  | err => exact fun p => p
  | exc e r s => exact fun p U T' cls d G l o q => p U cls d sg G l o.bare q
  | ok vs r1 s1 =>
    intro p U xs T' G l o1 h
    have p : PostS C H0 W0 Wx W D (if vs.length = is.length then _ else _) := p
    split at p
    · rename_i hl
      refine ⟨by rw [← h.length]; exact hl, p U _ G l (o1.stores h hl)⟩
    · exact p.elim
theorem zPar2 {i j : Nat} {x y : Str} {a b : Expr} {cs : CEs} {px py pt pos : Pos} {kt k2 pt2} (hc : X.calm = true) (hN : X.N.Nodup) (hi : X.N[i]? = some x) (hj : X.N[j]? = some y) (hij : i ≠ j)
    (hx : X.env.scope.names.lookup x = some .local) (hy : X.env.scope.names.lookup y = some .local) (ha : PA X [a, b] (tP C H0 W0 Wx (evP F cs)))
    (hw : swappedStores [.Tuple [.Name x px, .Name y py] kt pt] (.Tuple [a, b] k2 pt2) X.env = pure (some [x, y])) :
    PS X (.Assign [.Tuple [.Name x px, .Name y py] kt pt] (.Tuple [a, b] k2 pt2) pos) (tSt C H0 W0 Wx (exS F (.par [i, j] cs))) := by
  refine (ps_par hc hN hi hj hij hx hy ha hw).conv ?_
  intro D sg H h
  obtain ⟨T, W, r, s, o, p⟩ := parP h
  refine ⟨T, W, r, s, o, ?_⟩
  revert p
  cases evP F cs r s with
  | err => exact fun p => p
  | exc e r s => exact fun p => p
  | ok vs r s =>
    intro p U xs T' G l o1 hd
    obtain ⟨e, q⟩ := p U xs T' G l o1 hd
    match xs, e, q with
    | [v, w], _, q => exact ⟨v, w, rfl, q⟩
theorem zPar3 {i j m : Nat} {x y z : Str} {a b c : Expr} {cs : CEs} {px py pz pt pos : Pos} {kt k2 pt2} (hc : X.calm = true) (hN : X.N.Nodup) (hi : X.N[i]? = some x) (hj : X.N[j]? = some y) (hm : X.N[m]? = some z) (hij : i ≠ j) (him : i ≠ m) (hjm : j ≠ m)
    (hx : X.env.scope.names.lookup x = some .local) (hy : X.env.scope.names.lookup y = some .local) (hz : X.env.scope.names.lookup z = some .local) (ha : PA X [a, b, c] (tP C H0 W0 Wx (evP F cs)))
    (hw : swappedStores [.Tuple [.Name x px, .Name y py, .Name z pz] kt pt] (.Tuple [a, b, c] k2 pt2) X.env = pure (some [x, y, z])) :
    PS X (.Assign [.Tuple [.Name x px, .Name y py, .Name z pz] kt pt] (.Tuple [a, b, c] k2 pt2) pos) (tSt C H0 W0 Wx (exS F (.par [i, j, m] cs))) := by
  refine (ps_par3 hc hN hi hj hm hij him hjm hx hy hz ha hw).conv ?_
  intro D sg H h
  obtain ⟨T, W, r, s, o, p⟩ := parP h
  refine ⟨T, W, r, s, o, ?_⟩
  revert p
  cases evP F cs r s with
  | err => exact fun p => p
  | exc e r s => exact fun p => p
  | ok vs r s =>
    intro p U xs T' G l o1 hd
    obtain ⟨e, q⟩ := p U xs T' G l o1 hd
    match xs, e, q with
    | [u, v, w], _, q => exact ⟨u, v, w, rfl, q⟩
/-- the stores of (x, y) = (a, b) -/
theorem swap2 {x y : Str} {a b : Expr} {px py pt : Pos} {kt k2 pt2} {env : Env} (hk : env.scope.kind = .function) (hx : env.scope.names.lookup x = some .local) (hy : env.scope.names.lookup y = some .local) (hl : (py.line == px.line) = true) (hne : (x == y) = false)
    (hs : ([a, b].any fun | .Starred .. => true | _ => false) = false) (hf : [a, b].all (foldedForSure 8) = false) (hc : [a, b].all (constantsAlone 8) = false) :
    swappedStores [.Tuple [.Name x px, .Name y py] kt pt] (.Tuple [a, b] k2 pt2) env = pure (some [x, y]) := by
  have kx : env.kindOf x = some .local := hx
  have ky : env.kindOf y = some .local := hy
  have hb : env.blockKind = .function := by unfold Env.blockKind; rw [hk]; rfl
  have hne' : (y == x) = false := by
    rw [beq_eq_false_iff_ne] at hne ⊢
    exact fun e => hne e.symm
  have hd : [x, y].eraseDups.length = 2 := by
    simp [List.eraseDups_cons, List.filter, hne', hne]
  unfold swappedStores
  simp only [hb, hs, hf, hc]
  simp [Expr.pos, kx, ky, hl, hd, List.filterMap]
  simp only [List.any_cons, List.any_nil, Bool.or_false, Bool.or_eq_false_iff] at hs
  rintro (q | q)
  · exact absurd (hs.1.symm.trans q) (by decide)
  · exact absurd (hs.2.symm.trans q) (by decide)
theorem swap3 {x y z : Str} {a b c : Expr} {px py pz pt : Pos} {kt k2 pt2} {env : Env} (hk : env.scope.kind = .function) (hx : env.scope.names.lookup x = some .local) (hy : env.scope.names.lookup y = some .local) (hz : env.scope.names.lookup z = some .local) (hl : (py.line == px.line) = true) (hl2 : (pz.line == px.line) = true) (hne : (x == y) = false) (hnz : (x == z) = false) (hyz : (y == z) = false)
    (hs : ([a, b, c].any fun | .Starred .. => true | _ => false) = false) (hf : [a, b, c].all (foldedForSure 8) = false) (hc : [a, b, c].all (constantsAlone 8) = false) :
    swappedStores [.Tuple [.Name x px, .Name y py, .Name z pz] kt pt] (.Tuple [a, b, c] k2 pt2) env = pure (some [x, y, z]) := by
  have kx : env.kindOf x = some .local := hx
  have ky : env.kindOf y = some .local := hy
  have kz : env.kindOf z = some .local := hz
  have hb : env.blockKind = .function := by unfold Env.blockKind; rw [hk]; rfl
  have sy : ∀ {p q : Str}, (p == q) = false → (q == p) = false := fun {p q} h => by
    rw [beq_eq_false_iff_ne] at h ⊢
    exact fun e => h e.symm
  have hd : [x, y, z].eraseDups.length = 3 := by
    simp [List.eraseDups_cons, List.filter, hne, hnz, hyz, sy hne, sy hnz, sy hyz]
  unfold swappedStores
  simp only [hb, hs, hf, hc]
  simp [Expr.pos, kx, ky, kz, hl, hl2, hd, List.filterMap]
  simp only [List.any_cons, List.any_nil, Bool.or_false, Bool.or_eq_false_iff] at hs
  rintro (q | q | q)
  · exact absurd (hs.1.symm.trans q) (by decide)
  · exact absurd (hs.2.1.symm.trans q) (by decide)
  · exact absurd (hs.2.2.symm.trans q) (by decide)
end
end Gz
namespace Gz
open PySem PySem.Spec PyProof.Rows L2
section
variable {C : Cn} {H0 : Hp} {W0 : Gh} {T : Hid} {Wx : WX} {sg : L2.St} {X : Cx} {F : FT} {k : Nat} {P : Pr} {t : Ct}
/-! ### {1: a, 2: b, ..} -/
def trsM (C : Cn) (H0 : Hp) (W0 : Gh) (Wx : WX) (F : FT) : List Int → CEs → List (TE × TE)
  | k :: ks, .cons c cs => (tC (.int k), fun sg H Q => ∃ T, tV C H0 W0 T Wx (fun r s => frz (evE F c r s)) sg H Q) :: trsM C H0 W0 Wx F ks cs
  | _, _ => []
/-- as many -/
def fitM : List Int → CEs → Bool
  | [], .nil => true
  | _ :: ks, .cons _ cs => fitM ks cs
  | _, _ => false
theorem pairsM : ∀ {ks : List Int} {cs : CEs} {W : Gh} {r : Rho} {s : Sto} {H : Hp} {Q : List (V × V) → Hp → Prop}, fitM ks cs = true → Okk C H0 W0 T W r s sg H →
    Post C H0 W0 T Wx sg (AR C) W (fun vs G => Q ((ks.zip vs).map fun p => (V.int p.1, p.2)) G) (evA F cs r s) → tPairs (trsM C H0 W0 Wx F ks cs) sg H Q
  | [], .nil, W, r, s, H, Q, _, o, p => by
    rw [evA] at p
    exact p W [] H (Gh.le.refl _) o .nil
  | [], .cons _ _, _, _, _, _, _, h, _, _ => by cases h
  | _ :: _, .nil, _, _, _, _, _, h, _, _ => by cases h
  | k :: ks, .cons c cs, W, r, s, H, Q, h, o, p => by
    rw [evA] at p
    show ∃ T, tV C H0 W0 T Wx (fun r s => frz (evE F c r s)) sg H _
    refine ⟨T, W, r, s, o, p.bind.imp ?_⟩
    rintro x G ⟨U, r1, s1, v, l1, o1, rx, p1⟩
    refine pairsM (ks := ks) (cs := cs) h o1 (p1.bind.imp ?_)
    rintro y G2 ⟨U2, r2, s2, w, l2, o2, ry, p2⟩
    exact p2 U2 (x :: y) G2 (Gh.le.refl _) o2 (Reps.cons (Rep.mono l2 rx) ry)
theorem post_hide {a b : Type} {R R' : Gh → Rho → Hp → a → b → Prop} {q : Addr} {sl : Slot} {W : Gh} {Q : b → Hp → Prop} {x : Rs a} (p : Post C H0 W0 T Wx sg R W Q x) :
    Post C H0 W0 ((q, sl) :: T) Wx sg R' W (fun y G => ∃ U v r s, x = .ok v r s ∧ W.le U ∧ Okk C H0 W0 ((q, sl) :: T) U r s sg G ∧ R' U r G v y) x := by
  cases x with
  | ok v r s => exact fun U y G l o z => ⟨U, v, r, s, rfl, l, o, z⟩
  | exc e r s => exact fun U cls d G l o z => p U cls d G l o.unhideN.1 z
  | err => exact p
theorem putK_new : ∀ {kvs : List (Key × V)} {k : Key} {v : V}, (∀ p ∈ kvs, p.1 ≠ k) → putK kvs k v = kvs ++ [(k, v)]
  | kvs, k, v, h => by
    unfold putK
    rw [if_neg]
    rw [List.any_eq_true]
    rintro ⟨p, hp, e⟩
    exact h p hp (by simpa using e)
theorem merge_new : ∀ {more kvs : List (Key × V)}, ((kvs ++ more).map (·.1)).Nodup → mergeK kvs more = kvs ++ more
  | [], kvs, _ => by rw [List.append_nil]; rfl
  | p :: more, kvs, h => by
    show mergeK (putK kvs p.1 p.2) more = _
    have hn : ∀ q ∈ kvs, q.1 ≠ p.1 := by
      intro q hq e
      rw [List.map_append, List.nodup_append] at h
      exact h.2.2 q.1 (List.mem_map_of_mem hq) p.1 (List.mem_map_of_mem List.mem_cons_self) e
    rw [putK_new hn]
    have e : (kvs ++ [(p.1, p.2)]) ++ more = kvs ++ p :: more := by rw [List.append_assoc]; rfl
    rw [merge_new (by rw [e]; exact h), e]
theorem repK_zip : ∀ {ks : List Int} {xs : List Val} {vs : List V} {U : Gh}, Reps C U xs vs → RepK C U ((ks.map Sum.inl).zip xs) ((ks.map Sum.inl).zip vs)
  | [], _, _, _, _ => repK_nil.mpr rfl
  | _ :: _, [], _, _, h => by rw [reps_nil.mp h]; exact repK_nil.mpr rfl
  | k :: ks, x :: xs, _, U, h => by
    obtain ⟨v, r, rfl, a, b⟩ := reps_cons.mp h
    exact repK_cons.mpr ⟨v, _, rfl, a, repK_zip b⟩
theorem zip_keys : ∀ {ks : List Int} {vs : List V}, ((ks.map (Sum.inl : Int → Key)).zip vs).map (fun kv => (kV kv.1, kv.2)) = (ks.zip vs).map fun p => (V.int p.1, p.2)
  | [], _ => rfl
  | _ :: _, [] => rfl
  | k :: ks, v :: vs => by
    rw [List.map_cons, List.zip_cons_cons, List.zip_cons_cons, List.map_cons, List.map_cons, zip_keys]
    rfl
theorem zip_fst : ∀ {ks : List Int} {vs : List V}, (((ks.map (Sum.inl : Int → Key)).zip vs).map (·.1)).Sublist (ks.map Sum.inl)
  | [], _ => List.Sublist.refl _
  | _ :: _, [] => List.nil_sublist _
  | k :: ks, v :: vs => by
    rw [List.map_cons, List.zip_cons_cons, List.map_cons]
    exact List.Sublist.cons₂ _ zip_fst
theorem sDctM {keys : List (Option Expr)} {values : List Expr} {ks : List Int} {cs : CEs} {pos : Pos} (hp : PPs X pos keys values (trsM C H0 W0 Wx F ks cs)) (hall : keys.all (·.isSome) = true) (hl : keys.length = values.length) (h0 : keys ≠ []) (h15 : keys.length ≤ 15) (hk : ks.length ≤ 15) (hn : ks.Nodup) (hf : fitM ks cs = true) :
    PE X (.Dict keys values pos) (tR C H0 W0 T Wx (evE F (.dctM ks cs))) := by
  refine (pe_disp hp hall hl h0 h15).conv ?_
  rintro sg H Q ⟨W, r, s, o, p⟩
  rw [evE] at p
  intro q nq
  have o0 := o.newL nq (.dK [])
  obtain ⟨D, e0, o1⟩ := o0.hideN ((RvR.new (v := .fd []) rfl).mp (o.newRD nq (repK_nil.mpr rfl)))
  cases e0
  refine pairsM (T := (q, .dic []) :: T) hf o1 ((post_hide (R := AR C) (R' := AR C) (Q := fun _ _ => True) ?_).imp ?_)
  · revert p
    cases evA F cs r s with
    | err => exact fun p => p
    | exc e r s => exact fun p => p
    | ok v r s => exact fun p U y G l o z => trivial
  · rintro vs G ⟨U, xs, r1, s1, e, l, o2, rs⟩
    have rs : Reps C U xs vs := rs
    rw [e, bind_ok] at p
    obtain ⟨_, _, _, ⟨ob, z4, kk, z5, z6⟩, _⟩ := o2.hid (q, .dic []) List.mem_cons_self
    rw [repK_nil.mp z6] at z5
    subst z5
    have nd : (((ks.map (Sum.inl : Int → Key)).zip vs).map (·.1)).Nodup := List.Nodup.sublist zip_fst (List.Pairwise.map Sum.inl (fun a b h e => h (Sum.inl.inj e)) hn)
    refine ⟨z4, (ks.map Sum.inl).zip vs, zip_keys.symm, ?_, ?_⟩
    · rw [List.length_zip, List.length_map]; omega
    · rw [merge_new (kvs := []) (by simpa using nd), List.nil_append]
      have o4 := o2.hset (tl := .dic ((ks.map Sum.inl).zip xs)) (ob := .dK ((ks.map Sum.inl).zip vs)) ⟨_, rfl, repK_zip rs⟩
      obtain ⟨o5, nr⟩ := o4.unhideN
      exact p U _ _ l o5 ((RvR.new (v := .fd _) rfl).mpr nr)
/-! ### a, xs[i], .. = x, y, .. -/
theorem PostS.bindT {a b : Type} {R : Gh → Rho → Hp → a → b → Prop} {W : Gh} {D : Ends} {x : Rs a} {f : a → Rho → Sto → Rs Fl} (h : PostS C H0 W0 Wx W D (x.bind f)) :
    Post C H0 W0 T Wx sg R W (fun y G => ∃ U r s v, W.le U ∧ Okk C H0 W0 T U r s sg G ∧ R U r G v y ∧ PostS C H0 W0 Wx U D (f v r s)) x := by
  cases x with
  | ok v r s => exact fun U y G l o q => ⟨U, r, s, v, l, o, q, PostS.mono l h⟩
  | exc e r s => exact fun U cls d G l o q => h U cls d sg G l o.bare q
  | err => exact h
def gTg (C : Cn) (H0 : Hp) (W0 : Gh) (Wx : WX) (F : FT) : Nat × Option CE → TG
  | (i, none) => gName i
  | (i, some c) => gSub (tVar i) (fun sg H Q => ∃ T, tV C H0 W0 T Wx (fun r s => frz (evE F c r s)) sg H Q) rSetL
def gTgG (C : Cn) (H0 : Hp) (W0 : Gh) (Wx : WX) (F : FT) : List (Nat × Option CE) → TGs
  | [] => gNil
  | tg :: tgs => gCons (gTg C H0 W0 Wx F tg) (gTgG C H0 W0 Wx F tgs)
theorem takeG {D : Ends} : ∀ {tgs : List (Nat × Option CE)} {vs : List Rv} {xs : List V} {T' : Hid} {U : Gh} {r : Rho} {s : Sto} {sg : L2.St} {H : Hp} (_ : Okk C H0 W0 T' U r s sg H) (_ : Held C U [] vs xs T') (_ : vs.length = tgs.length) (_ : PostS C H0 W0 Wx U D (stG F tgs vs r s)),
    gTgG C H0 W0 Wx F tgs xs sg H D.nx
  | [], vs, xs, T', U, r, s, sg, H, o, h, hl, p => by
    obtain rfl : vs = [] := List.length_eq_zero_iff.mp hl
    cases h
    rw [stG] at p
    exact ⟨rfl, p U sg H (Gh.le.refl _) o⟩
  | _ :: _, [], _, _, _, _, _, _, _, _, _, hl, _ => by simp at hl
  | (i, none) :: tgs, v :: vs, xs, T', U, r, s, sg, H, o, h, hl, p => by
    rw [stG] at p
    cases h with
    | val hr h => exact ⟨_, _, rfl, takeG (o.setV i hr) h (by simpa using hl) p⟩
    | nw hv h =>
      obtain ⟨pre, rfl, f⟩ := h.pre
      obtain ⟨o2, q⟩ := o.unhideM
      rw [stV_slot] at p
      exact ⟨_, _, rfl, takeG (o2.setN i hv q) (f []) (by simpa using hl) p⟩
  | (i, some c) :: tgs, v :: vs, xs, T', U, r, s, sg, H, o, h, hl, p => by
    cases h with
    | nw hv h =>
      cases v with
      | val => cases hv
      | fr ys => simp only [stG] at p; exact p.elim
      | fd ys => simp only [stG] at p; exact p.elim
    | @val _ _ x xv _ xs hr h =>
      rw [stG] at p
      split at p
      · rename_i hly
        obtain ⟨a, ws, e1, e2⟩ := o.listy hly
        refine ⟨xv, xs, rfl, .ref a, e1, T', U, r, s, o, p.bindT.imp ?_⟩
        rintro z G2 ⟨U2, r2, s2, w, l2, o2, rz, p2⟩
        unfold putAt at p2
        split at p2
        · rename_i ys k hq
          obtain rfl := rep_int (C := C) (W := U2) rz
          obtain ⟨b, ws, g1, g2, g3, g4, g5, g6⟩ := o2.own i ys hq
          rw [e1] at g1
          cases g1
          split at p2
          · rename_i j hj
            rw [bind_ok] at p2
            refine ⟨a, ws, k, j, rfl, rfl, g5, by rw [← g6.length]; exact hj, ?_⟩
            exact takeG (o2.ownSet hq e1 (g6.set j (hr.mono l2))) (h.mono l2) (by simpa using hl) p2
          · exact p2.elim
        · rename_i l k hq
          obtain rfl := rep_int (C := C) (W := U2) rz
          obtain ⟨u, g1, g2⟩ := o2.val i _ hq
          rw [e1] at g1
          cases g1
          rw [Rep] at g2
          obtain ⟨b, g3, g4⟩ := g2
          cases g3
          obtain ⟨_, ys, ws, h2, h3, h4⟩ := o2.sto l a g4
          rw [h2] at p2
          dsimp only at p2
          split at p2
          · rename_i j hj
            rw [bind_ok] at p2
            refine ⟨a, ws, k, j, rfl, rfl, h3, by rw [← h4.length]; exact hj, ?_⟩
            exact takeG (o2.locSet g4 (h4.set j (hr.mono l2))) (h.mono l2) (by simpa using hl) p2
          · exact p2.elim
        · exact p2.elim
      · exact p.elim
theorem zParG {tgs : List (Nat × Option CE)} {ts es : List Expr} {cs : CEs} {kt k2 : Nat} {pt pt2 pos : Pos} (ha : PA X es (tP C H0 W0 Wx (evP F cs))) (hg : PG X (.Tuple ts kt pt) (gTup C.K tgs.length (gTgG C H0 W0 Wx F tgs))) (hz : tgs.length ≤ sizeLine)
    (hs : swapsWithSole [.Tuple ts kt pt] (.Tuple es k2 pt2) pos.line X.env = pure false) (hw : swappedStores [.Tuple ts kt pt] (.Tuple es k2 pt2) X.env = pure none) :
    PS X (.Assign [.Tuple ts kt pt] (.Tuple es k2 pt2) pos) (tSt C H0 W0 Wx (exS F (.parG tgs cs))) := by
  refine (ps_asg (peTup ha) hg hs hw rfl).conv ?_
  rintro D sg H ⟨W, r, s, o, p⟩
  rw [exS] at p
  refine ⟨[], W, r, s, o, ?_⟩
  revert p
  cases evP F cs r s with
  | err => exact fun p => p
  | exc e r s => exact fun p U T' cls d G l o q => p U cls d sg G l o.bare q
  | ok vs r1 s1 =>
    intro p U xs T' G l o1 h
    have p : PostS C H0 W0 Wx W D (if vs.length = tgs.length then _ else _) := p
    split at p
    · rename_i hl
      have hx := h.length
      refine ⟨by omega, fun q us nq _ => ⟨q, xs, rfl, .inl (.inr ⟨_, upd_same⟩), by omega, ?_⟩⟩
      exact takeG (o1.newL nq _) h hl (PostS.mono l p)
    · exact p.elim
end
end Gz
/-! enumerate and zip: what is walked -/
namespace Gz
open PySem PySem.Spec PyProof.Rows L2
open AutoSeq1 (wpAny_loadPart')
/-! ### enumerate(tuple) -/
theorem meets_enumT (l : Addr) (items : Array Value) (n : Nat) (dct : Option Addr) (sl : Array (Option Value)) :
    Meets (Builtin.«enumerate.__new__» ⟨[.type "enumerate", .ref l], []⟩) (fun _ R s => s.heap.get? l = some { cls := .type "tuple", dict := dct, data := .seq items n, slots := sl } ∧
      R (.ok (.ret (.ref (s.heap.push { cls := .type "tuple_iterator", data := .fields #[.ref l, .int 0 0] }).objs.size)))
        { s with heap := (s.heap.push { cls := .type "tuple_iterator", data := .fields #[.ref l, .int 0 0] }).push { cls := .type "enumerate", data := .fields #[.none, .bool false, .ref s.heap.objs.size, rawInt 0, .none, .none] } }) :=
  .of_wp fun prog w A R s h => by
    obtain ⟨hp, g, d, tk, os⟩ := s; obtain ⟨hl, h⟩ := h
    have hsub := sub_enumerate
    have hL : Heap.IsTuple (Shared.heap ⟨hp, g, d, tk, os⟩) l items := ⟨_, hl, rfl, n, rfl⟩
    wp_walk using wpAny_loadPart' hl
    refine wpAny_stack_any fun st => wpAny_pure ?_
    split
    · rename_i c _ _ _ _ _
      cases (c == Value.type "enumerate")
      · wp_walk using wpAny_loadPart' hl, wpAny_pyIter_tuple hL
        exact ⟨_, rfl, h⟩
      · wp_walk using wpAny_loadPart' hl, wpAny_pyIter_tuple hL
        exact ⟨_, rfl, h⟩
    · wp_walk using wpAny_loadPart' hl, wpAny_pyIter_tuple hL
      exact ⟨_, rfl, h⟩
theorem callEnumT {prog : Program} {w : World} {A : Around} {E : Value → Shared → Prop} {s : Shared} {l : Addr} {items : Array Value} {Q : Value → Shared → Prop} (hL : s.heap.IsTuple l items)
    (h : ∀ h', IsEnum h' (s.heap.objs.size + 1) s.heap.objs.size 0 .none → h'.IsTupleIter s.heap.objs.size l 0 → (∀ b o, s.heap.get? b = some o → h'.get? b = some o) → Q (.ref (s.heap.objs.size + 1)) { s with heap := h' }) :
    wpAny (model prog w) A (call (.type "enumerate") [.ref l]) Q E s := by
  obtain ⟨⟨c, dct, dt, sl⟩, hl, hc, n, hd⟩ := hL
  replace hc : c = .type "tuple" := hc
  replace hd : dt = .seq items n := hd
  subst hc hd
  refine callType_new F.called_enumerate (by decide) (F.typeCall_enumerate_1 _) (F.newCall_enumerate_1 _) (fun obj => F.args_object_init_2 obj _) F.entry_enumerate_new (meets_enumT l items n dct sl) ⟨hl, ?_⟩
  have hz : (s.heap.push { cls := .type "tuple_iterator", data := .fields #[.ref l, .int 0 0] }).objs.size = s.heap.objs.size + 1 := Heap.size_push ..
  show _ ∧ _
  rw [hz]
  have he : IsEnum ((s.heap.push { cls := .type "tuple_iterator", data := .fields #[.ref l, .int 0 0] }).push
      { cls := .type "enumerate", data := .fields #[.none, .bool false, .ref s.heap.objs.size, rawInt 0, .none, .none] }) (s.heap.objs.size + 1) s.heap.objs.size 0 .none := by
    have := Heap.get?_push_size (s.heap.push { cls := .type "tuple_iterator", data := .fields #[.ref l, .int 0 0] })
      (o := { cls := .type "enumerate", data := .fields #[.none, .bool false, .ref s.heap.objs.size, rawInt 0, .none, .none] }) rfl
    rw [hz] at this; exact this
  exact ⟨⟨_, he, rfl⟩, h _ he ⟨_, Heap.get?_push_of_some _ (Heap.get?_push_size _ rfl), rfl, rfl⟩ fun b o x => Heap.get?_push_of_some _ (Heap.get?_push_of_some _ x)⟩
/-- the tuple at a, each item in a new pair -/
def IteT (K : PySem.W.Frag) (a : Addr) : It :=
  ⟨fun i H => ∃ (xs : List V) (x : V), SqT K H a xs ∧ xs[i]? = some x, fun i H v H' => ∃ T x, v = .ref T ∧ H T = none ∧ H' = upd H T (.tup [.int (i : Nat), x]) ∧ ∀ xs, SqT K H a xs → xs[i]? = some x, fun i H => ∃ xs : List V, SqT K H a xs ∧ xs.length ≤ i⟩
/-- a tuple's iterator that is at its end -/
theorem drawsEnd {prog : Program} {w : World} {A : Around} (hh : A.handled = none) (it t : Addr) (items : Array Value) {n : Nat} (hn : items[n]? = none) :
    Draws prog w A it [it, t] n (fun _ _ => True) (fun i h => i = n ∧ h.IsTupleIter it t n ∧ h.IsTuple t items) where
  live := fun _ _ st => let ⟨o, ho, _⟩ := st.2.1; ⟨o, ho⟩
  frame := fun _ _ _ st hk => ⟨st.1, st.2.1.at fun o e => hk it (by simp) o e, st.2.2.at fun o e => hk t (by simp) o e⟩
  item := fun i s Q E hi st hQ => absurd st.1 (by omega)
  done := fun s Q E st hE => wpAny_nextOf_tuple_end hh st.2.1 st.2.2 hn hE
theorem turn_enumT {P : Program} {w : World} {K : PySem.W.Frag} {elts : List Expr} {kk : Nat} {tpos : Pos} (a e it : Addr) :
    Turn P w K (.Tuple elts kk tpos) (IteT K a) [e, it] e (fun i h => (∃ old, IsEnum h e it ((i : Nat) : Int) old) ∧ h.IsTupleIter it a i ∧ e ≠ it ∧ a ≠ it ∧ e ≠ a) where
  mem := by simp
  obj := fun i h st b hb => by
    obtain ⟨⟨old, he⟩, ⟨o, ho, hc, hd⟩, _⟩ := st
    have e' : b = e ∨ b = it := by simpa using hb
    rcases e' with z | z
    · rw [z]; exact ⟨_, he, fun v q => nomatch q⟩
    · rw [z]; exact ⟨o, ho, fun v q => by rw [hd] at q; cases q⟩
  keep := fun i h h' st k => let ⟨⟨old, he⟩, hi, hne⟩ := st; ⟨⟨old, k e (by simp) _ he⟩, hi.at fun o q => k it (by simp) o q, hne⟩
  item := by
    intro X hP hw hK hc i pins s σ H E I hf st hg
    subst hP hw hK
    obtain ⟨⟨old, he⟩, hit, hne, hai, hea⟩ := st
    obtain ⟨xs, x, hq, hx⟩ := hg
    obtain ⟨its, rv, p, hz⟩ := I.tuple hq
    obtain ⟨u, hu, ru⟩ := rv.get hx
    have hel : e < s.heap.objs.size := Heap.lt_size he
    have hil : it < s.heap.objs.size := by obtain ⟨_, q, _⟩ := hit; exact Heap.lt_size q
    have hlt : i < its.toArray.size := by
      have := (List.getElem?_eq_some_iff.mp hu).1
      simpa using this
    refine wpAny_pyNext_enum_itemD (Draws.tuple (by exact I.ok.hd hc) it a hai its.toArray) he ⟨hit, p⟩ hlt hne (by simp [hne, hea]) fun u' h' tk hP ho hst' hT hsz hk => ?_
    have e1 : u' = u := by
      have hP : its.toArray[i]? = some u' := hP
      have : its[i]? = some u' := by simpa using hP
      rw [hu] at this; exact (Option.some.inj this).symm
    subst e1
    obtain ⟨hit', _⟩ := hst'
    refine ⟨_, rfl, wpAny_letOwnedTupleGo_enum (s := { s with heap := h', toks := tk + 1 }) ho fun h'' he' sb => ?_⟩
    have hT2 : h''.get? s.heap.objs.size = some { cls := .type "tuple", data := .seq #[.int i tk, u'] } := (sb.2 _ (Nat.ne_of_gt hel)).trans hT
    have new : ObjOk X.prog X.w (upd H s.heap.objs.size (.tup [.int (i : Nat), x])) h'' s.heap.objs.size (.tup [.int (i : Nat), x]) :=
      ⟨by show 2 ≤ sizeLine; decide, [.int i tk, u'], .cons ⟨_, rfl⟩ (.cons ru .nil), ⟨_, hT2, rfl, _, rfl⟩⟩
    have I1 : Inv X pins σ (upd H s.heap.objs.size (.tup [.int (i : Nat), x])) { s with heap := h'', toks := tk + 1 } :=
      I.turnedNew (ch := [e, it]) (fun b ob hb q => (sb.2 b (fun z => hb (by simp [z]))).trans (hk b ob (fun z => hb (by simp [z])) (fun z => hb (by simp [z])) q)) hf (Nat.le_refl _) new
    refine ⟨.ref s.heap.objs.size, _, I1, rfl, ⟨_, x, rfl, I.hok.fresh (Nat.le_refl _), rfl, fun ys hy => by rw [I.tuple_inj hy hq]; exact hx⟩, ⟨⟨u', ?_⟩, hit'.at fun o q => (sb.2 it (Ne.symm hne)).trans q, hne, hai, hea⟩, fun b hb => ?_⟩
    · have e1 : ((i + 1 : Nat) : Int) = (i : Int) + 1 := by omega
      rw [e1]; exact he'
    · have hb' : b < s.heap.objs.size := by
        have e' : b = e ∨ b = it := by simpa using hb
        rcases e' with z | z
        · rw [z]; exact hel
        · rw [z]; exact hil
      rw [upd_ne (Nat.ne_of_lt hb')]
      exact (hf b hb).1
  done := by
    intro X hP hw hK hc i pins s σ H E I hf st hg
    subst hP hw hK
    obtain ⟨⟨old, he⟩, hit, hne, hai, hea⟩ := st
    obtain ⟨xs, hq, hx⟩ := hg
    obtain ⟨its, rv, p, hz⟩ := I.tuple hq
    obtain ⟨f0, f1, f2, f3, f4, f5⟩ := hf it (by simp)
    have hl := rv.length
    have hn : its.toArray[i]? = none := by simp; omega
    exact wpAny_pyNext_enum_endD (drawsEnd (by exact I.ok.hd hc) it a its.toArray hn) he ⟨rfl, hit, p⟩ fun h' eb => ⟨rfl, I.turned (t' := s.toks) (fun b o hb q => eb b o hb q) f0 f1 f3 f4 f5⟩
  self := fun A i s Q E st h => let ⟨⟨_, he⟩, _⟩ := st; wpAny_pyIter_enum he h
def iEnumT (K : PySem.W.Frag) (ta : TA) : TI := fun σ H R => ta σ H fun vs H1 => ∃ a xs, vs = [.ref a] ∧ SqT K H1 a xs ∧ R (IteT K a) H1
theorem pi_enumT {X : Cx} {e : Expr} {ta : TA} {p pos tpos : Pos} {elts : List Expr} {kk : Nat} (hg : Gl X "enumerate") (hm : X.mg "enumerate" = none) (ha : PA X [e] ta) (hs : starEach [e] X.env = [(false, eval e X.env)]) :
    PI X (.Tuple elts kk tpos) (.Call (.Name "enumerate" p) [e] [] pos) (iEnumT X.K ta) := by
  refine ⟨fun pins s σ H R I h => ?_⟩
  refine Call_ (ld_blt I hg hm boot_enumerate (PyProof.Rows.callWith_type1 (thn (ha.run pos pins s σ H _ I h) fun us s1 ⟨vs, H1, I1, r1, q1⟩ => ?_) hs rfl))
  obtain ⟨a, xs, ex, hq, q⟩ := q1
  subst ex
  cases r1 with
  | cons r rr =>
    cases rr
    cases r
    obtain ⟨its, rv, p', hz⟩ := I1.tuple hq
    have hla : a < s1.heap.objs.size := by obtain ⟨o, ho, _⟩ := p'; exact Heap.lt_size ho
    refine callEnumT p' fun h' he hit hk => wpAny_pyIter_enum he ?_
    have I2 : Inv X pins σ H1 { s1 with heap := h' } := I1.kept (t' := s1.toks) hk
    refine ⟨s1.heap.objs.size + 1, [s1.heap.objs.size + 1, s1.heap.objs.size], _, _, H1, rfl, I2, turn_enumT a (s1.heap.objs.size + 1) s1.heap.objs.size, ⟨⟨.none, he⟩, hit, Nat.succ_ne_self _, Nat.ne_of_lt hla, Nat.ne_of_gt (Nat.lt_succ_of_lt hla)⟩, fun b hb => ?_, q⟩
    have e' : b = s1.heap.objs.size + 1 ∨ b = s1.heap.objs.size := by simpa using hb
    have hle : s1.heap.objs.size ≤ b := by
      rcases e' with z | z
      · rw [z]; exact Nat.le_add_right _ _
      · rw [z]; exact Nat.le_refl _
    exact I1.fpOk hle (I1.hok.fresh hle)
/-! ### the walks -/
section
variable {C : Cn} {H0 : Hp} {W0 : Gh} {T : Hid} {Wx : WX} {sg : L2.St} {X : Cx} {F : FT} {k : Nat} {P : Pr} {t : Ct}
theorem take_pair {tg : List Nat} (hn : tg.length ≠ 1) {W : Gh} {r r' : Rho} {s : Sto} {H : Hp} {a : Addr} {x1 x2 : V} {v1 v2 : Val} (o : Okk C H0 W0 T W r s sg H) (na : H a = none) (r1 : Rep C W v1 x1) (r2 : Rep C W v2 x2) (hb : bindT tg (.tup [v1, v2]) r = some r') {Q : L2.St → Hp → Prop}
    (q : ∀ sg', Okk C H0 W0 T W r' s sg' (upd H a (.tup [x1, x2])) → L2.wipe sg' tg = L2.wipe sg tg → Q sg' (upd H a (.tup [x1, x2]))) : gTup C.K tg.length (gNames tg) (.ref a) sg (upd H a (.tup [x1, x2])) Q := by
  obtain ⟨xs, e, hl, rfl⟩ := bindT_many hn hb
  cases e
  exact ⟨a, [x1, x2], rfl, .inl (.inl upd_same), hl, takeNames (o.newL na _) (Reps.cons r1 (Reps.cons r2 Reps.nil)) hl q⟩
theorem numd_get {xs : List Val} {i : Nat} {v : Val} (h : (numd xs)[i]? = some v) : ∃ x, xs[i]? = some x ∧ v = .tup [.int ((i : Nat) : Int), x] := by
  unfold numd at h
  rw [List.getElem?_map, List.getElem?_zipIdx] at h
  cases e : xs[i]? with
  | none => rw [e] at h; cases h
  | some x =>
    rw [e] at h
    cases h
    exact ⟨x, rfl, by simp⟩
theorem numd_len {xs : List Val} : (numd xs).length = xs.length := by unfold numd; rw [List.length_map, List.length_zipIdx]
theorem walks_enum {tg : List Nat} (hn : tg.length ≠ 1) {U : Gh} {a : Addr} {vs : List V} {xs : List Val} (hF : U.F a = some (.lst vs)) (rs : Reps C U xs vs) : Walks C (gTup C.K tg.length (gNames tg)) tg U (Ite C.K a) (numd xs) where
  go i H sb hi := by
    rw [numd_len] at hi
    have l := rs.length
    exact ⟨vs, vs[i], .inl (.inl (sb _ _ hF)), List.getElem?_eq_getElem (by omega)⟩
  stop i H sb hi := ⟨vs, .inl (.inl (sb _ _ hF)), by rw [numd_len] at hi; rw [← rs.length]; exact hi⟩
  yld H0 W0 T W r r' s sg H G i x v o l hy hv hb Q q := by
    obtain ⟨A, y, rfl, na, rfl, hy⟩ := hy
    have e := hy vs (.inl (.inl (o.sub _ _ (l.2 _ _ hF))))
    obtain ⟨x, hx, rfl⟩ := numd_get hv
    obtain ⟨z, e2, rz⟩ := rs.get hx
    rw [e] at e2
    cases e2
    exact take_pair hn o na mk_int (rz.mono l) hb q
theorem walks_enumT {tg : List Nat} (hn : tg.length ≠ 1) {U : Gh} {a : Addr} {vs : List V} {xs : List Val} (hF : TupAt C.K U.F a vs) (rs : Reps C U xs vs) : Walks C (gTup C.K tg.length (gNames tg)) tg U (IteT C.K a) (numd xs) where
  go i H sb hi := by
    rw [numd_len] at hi
    have l := rs.length
    exact ⟨vs, vs[i], hF.sq sb, List.getElem?_eq_getElem (by omega)⟩
  stop i H sb hi := ⟨vs, hF.sq sb, by rw [numd_len] at hi; rw [← rs.length]; exact hi⟩
  yld H0 W0 T W r r' s sg H G i x v o l hy hv hb Q q := by
    obtain ⟨A, y, rfl, na, rfl, hy⟩ := hy
    have e := hy vs (hF.sq fun a o' z => o.sub _ _ (l.2 _ _ z))
    obtain ⟨x, hx, rfl⟩ := numd_get hv
    obtain ⟨z, e2, rz⟩ := rs.get hx
    rw [e] at e2
    cases e2
    exact take_pair hn o na mk_int (rz.mono l) hb q
theorem zipd_get {xs ys : List Val} {i : Nat} {v : Val} (h : ((xs.zip ys).map fun p => Val.tup [p.1, p.2])[i]? = some v) : ∃ x y, xs[i]? = some x ∧ ys[i]? = some y ∧ v = .tup [x, y] := by
  rw [List.getElem?_map, Option.map_eq_some_iff] at h
  obtain ⟨p, hp, rfl⟩ := h
  rw [List.getElem?_zip_eq_some] at hp
  exact ⟨p.1, p.2, hp.1, hp.2, rfl⟩
theorem walks_zip {tg : List Nat} (hn : tg.length ≠ 1) {U : Gh} {a b : Addr} {vs ws : List V} {xs ys : List Val} (hF : U.F a = some (.lst vs)) (rs : Reps C U xs vs) (hG : U.F b = some (.lst ws)) (rt : Reps C U ys ws) : Walks C (gTup C.K tg.length (gNames tg)) tg U (Itz C.K a b) ((xs.zip ys).map fun p => .tup [p.1, p.2]) where
  go i H sb hi := by
    rw [List.length_map, List.length_zip] at hi
    have l := rs.length
    have l2 := rt.length
    exact ⟨vs, ws, vs[i], ws[i], .inl (.inl (sb _ _ hF)), .inl (.inl (sb _ _ hG)), List.getElem?_eq_getElem (by omega), List.getElem?_eq_getElem (by omega)⟩
  stop i H sb hi := ⟨vs, ws, .inl (.inl (sb _ _ hF)), .inl (.inl (sb _ _ hG)), by
    rw [List.length_map, List.length_zip] at hi
    rw [← rs.length, ← rt.length]; omega⟩
  yld H0 W0 T W r r' s sg H G i x v o l hy hv hb Q q := by
    obtain ⟨A, x, y, rfl, na, rfl, hx, hy⟩ := hy
    have e := hx vs (.inl (.inl (o.sub _ _ (l.2 _ _ hF))))
    have e' := hy ws (.inl (.inl (o.sub _ _ (l.2 _ _ hG))))
    obtain ⟨x1, y1, hx1, hy1, rfl⟩ := zipd_get hv
    obtain ⟨z, e2, rz⟩ := rs.get hx1
    obtain ⟨z2, e3, rz2⟩ := rt.get hy1
    rw [e] at e2
    rw [e'] at e3
    cases e2
    cases e3
    exact take_pair hn o na (rz.mono l) (rz2.mono l) hb q
theorem walks_zipT {tg : List Nat} (hn : tg.length ≠ 1) {U : Gh} {a b : Addr} {vs ws : List V} {xs ys : List Val} (hF : TupAt C.K U.F a vs) (rs : Reps C U xs vs) (hG : TupAt C.K U.F b ws) (rt : Reps C U ys ws) : Walks C (gTup C.K tg.length (gNames tg)) tg U (RZ.ItzT C.K a b) ((xs.zip ys).map fun p => .tup [p.1, p.2]) where
  go i H sb hi := by
    rw [List.length_map, List.length_zip] at hi
    have l := rs.length
    have l2 := rt.length
    exact ⟨vs, ws, vs[i], ws[i], hF.sq sb, hG.sq sb, List.getElem?_eq_getElem (by omega), List.getElem?_eq_getElem (by omega)⟩
  stop i H sb hi := ⟨vs, ws, hF.sq sb, hG.sq sb, by
    rw [List.length_map, List.length_zip] at hi
    rw [← rs.length, ← rt.length]; omega⟩
  yld H0 W0 T W r r' s sg H G i x v o l hy hv hb Q q := by
    obtain ⟨A, x, y, rfl, na, rfl, hx, hy⟩ := hy
    have e := hx vs (hF.sq fun a o' z => o.sub _ _ (l.2 _ _ z))
    have e' := hy ws (hG.sq fun a o' z => o.sub _ _ (l.2 _ _ z))
    obtain ⟨x1, y1, hx1, hy1, rfl⟩ := zipd_get hv
    obtain ⟨z, e2, rz⟩ := rs.get hx1
    obtain ⟨z2, e3, rz2⟩ := rt.get hy1
    rw [e] at e2
    rw [e'] at e3
    cases e2
    cases e3
    exact take_pair hn o na (rz.mono l) (rz2.mono l) hb q
theorem sItEnum (g : CxG C P t k X) {elts : List Expr} {kk : Nat} {tpos p0 pos : Pos} {e : Expr} {tg : List Nat} {ce : CE} (hn : tg.length ≠ 1) (hb : ("enumerate" : Str) ∈ P.bl) (hg : Gl X "enumerate") (he : PE X e (tR C H0 W0 T Wx (evE F ce))) (na : starEach [e] X.env = [(false, eval e X.env)]) :
    PI X (.Tuple elts kk tpos) (.Call (.Name "enumerate" p0) [e] [] pos) (tIt C H0 W0 T Wx (gTup C.K tg.length (gNames tg)) tg (evI F (.enum ce))) := by
  refine (piOr (pi_enum hg (g.bl _ hb) (pa_cons (peV he) pa_nil na) na) (pi_enumT hg (g.bl _ hb) (pa_cons (peV he) pa_nil na) na)).conv ?_
  rintro sg H R ⟨W, r, s, o, p⟩
  rw [evI] at p
  cases hx : frz (evE F ce r s) with
  | err => rw [hx] at p; exact p.elim
  | exc ex r1 s1 =>
    rw [hx] at p
    refine .inl ⟨W, r, s, o, ?_⟩
    dsimp only
    rw [hx]; exact p
  | ok v r1 s1 =>
    rw [hx] at p
    cases v with
    | lst ys =>
      refine .inl ⟨W, r, s, o, ?_⟩
      dsimp only
      rw [hx]
      intro U x G l o1 rx
      obtain ⟨a, ws, rfl, tt, rs⟩ := rep_lst (C := C) (W := U) rx
      refine ⟨a, ws, rfl, .inl (.inl (o1.sub _ _ tt)), ?_⟩
      rw [g.hK]
      exact p U _ G l o1 (walks_enum hn tt rs)
    | tup ys =>
      refine .inr ⟨W, r, s, o, ?_⟩
      dsimp only
      rw [hx]
      intro U x G l o1 rx
      obtain ⟨a, ws, rfl, tt, rs⟩ := rep_tup (C := C) (W := U) rx
      refine ⟨a, ws, rfl, g.hK ▸ tt.sq o1.sub, ?_⟩
      rw [g.hK]
      exact p U _ G l o1 (walks_enumT hn tt rs)
    | _ => exact p.elim
theorem sItZip (g : CxG C P t k X) {elts : List Expr} {kk : Nat} {tpos p0 pos : Pos} {e e2 : Expr} {tg : List Nat} {ce ce2 : CE} (hn : tg.length ≠ 1) (hb : ("zip" : Str) ∈ P.bl) (hg : Gl X "zip") (he : PE X e (tR C H0 W0 T Wx (evE F ce))) (he2 : PE X e2 (tR C H0 W0 T Wx (evE F ce2)))
    (na : starEach [e, e2] X.env = (false, eval e X.env) :: starEach [e2] X.env) (nb : starEach [e2] X.env = [(false, eval e2 X.env)]) :
    PI X (.Tuple elts kk tpos) (.Call (.Name "zip" p0) [e, e2] [] pos) (tIt C H0 W0 T Wx (gTup C.K tg.length (gNames tg)) tg (evI F (.zip ce ce2))) := by
  refine (RZ.pi_zipA hg (g.bl _ hb) (pa_cons (peV he) (pa_cons (peV he2) pa_nil nb) na) na (by rw [nb]; rfl)).conv ?_
  rintro sg H R ⟨W, r, s, o, p⟩
  rw [evI] at p
  refine ⟨W, r, s, o, p.bind.imp ?_⟩
  rintro x G ⟨U, r1, s1, v, l1, o1, rx, p1⟩
  refine ⟨U, r1, s1, o1, p1.bind.imp ?_⟩
  rintro y G2 ⟨U2, r2, s2, w, l2, o2, ry, p2⟩
  rw [g.hK]
  have rx : Rep C U2 v x := Rep.mono l2 rx
  cases v with
  | lst xs =>
    cases w with
    | lst ys =>
      obtain ⟨a, ws, rfl, tt, rs⟩ := rep_lst (C := C) (W := U2) rx
      obtain ⟨b, zs, rfl, tt2, rs2⟩ := rep_lst (C := C) (W := U2) ry
      exact ⟨a, b, ws, zs, rfl, .inl ⟨.inl (.inl (o2.sub _ _ tt)), .inl (.inl (o2.sub _ _ tt2)), p2 U2 _ G2 (Gh.le.refl _) o2 (walks_zip hn tt rs tt2 rs2)⟩⟩
    | _ => exact p2.elim
  | tup xs =>
    cases w with
    | tup ys =>
      obtain ⟨a, ws, rfl, tt, rs⟩ := rep_tup (C := C) (W := U2) rx
      obtain ⟨b, zs, rfl, tt2, rs2⟩ := rep_tup (C := C) (W := U2) ry
      exact ⟨a, b, ws, zs, rfl, .inr ⟨tt.sq o2.sub, tt2.sq o2.sub, p2 U2 _ G2 (Gh.le.refl _) o2 (walks_zipT hn tt rs tt2 rs2)⟩⟩
    | _ => exact p2.elim
  | _ => cases w <;> exact p2.elim
end
end Gz
/-! len(set(..)), sorted(set(..)) -/
namespace Gz
open PySem PySem.Spec PyProof.Rows L2
theorem ded_aux : ∀ (ns acc : List Int), acc.Nodup → (ns.foldl (fun acc x => if acc.any (· == x) then acc else acc ++ [x]) acc).Nodup ∧ ∀ k, k ∈ ns.foldl (fun acc x => if acc.any (· == x) then acc else acc ++ [x]) acc ↔ k ∈ acc ∨ k ∈ ns
  | [], acc, h => ⟨h, fun k => by simp⟩
  | n :: ns, acc, h => by
    rw [List.foldl_cons]
    by_cases e : acc.any (· == n) = true
    · rw [if_pos e]
      obtain ⟨a, b⟩ := ded_aux ns acc h
      refine ⟨a, fun k => ?_⟩
      rw [b, List.mem_cons]
      have hm : n ∈ acc := by
        obtain ⟨y, hy, ey⟩ := List.any_eq_true.mp e
        rw [← eq_of_beq ey]; exact hy
      constructor
      · rintro (q | q)
        · exact .inl q
        · exact .inr (.inr q)
      · rintro (q | rfl | q)
        · exact .inl q
        · exact .inl hm
        · exact .inr q
    · rw [if_neg e]
      have hm : n ∉ acc := fun q => e (List.any_eq_true.mpr ⟨n, q, by simp⟩)
      obtain ⟨a, b⟩ := ded_aux ns (acc ++ [n]) (by
        rw [List.nodup_append]
        exact ⟨h, by simp, fun a ha b hb => by rw [List.mem_singleton] at hb; subst hb; exact fun e => hm (e ▸ ha)⟩)
      refine ⟨a, fun k => ?_⟩
      rw [b, List.mem_append, List.mem_singleton, List.mem_cons, or_assoc]
theorem dedI_nodup (ns : List Int) : (dedI ns).Nodup := (ded_aux ns [] List.nodup_nil).1
theorem dedI_mem {ns : List Int} {k : Int} : k ∈ dedI ns ↔ k ∈ ns := by
  rw [dedI, (ded_aux ns [] List.nodup_nil).2 k]; simp
theorem range_get (ns : List Int) : (List.range ns.length).map (fun i => ns.getD i 0) = ns := by
  apply List.ext_getElem
  · simp
  · intro i h1 h2
    simp [List.getElem?_eq_getElem h2]
theorem dedI_met (ns : List Int) : PyProof.Rows.firstMet (fun i => ns.getD i 0) ns.length = dedI ns := by
  unfold PyProof.Rows.firstMet
  rw [range_get]
  rfl
theorem perm_of {as bs : List Int} (ha : as.Nodup) (hb : bs.Nodup) (h : ∀ k, k ∈ as ↔ k ∈ bs) : as.Perm bs := (List.perm_ext_iff_of_nodup ha hb).mpr h
/-- ascending, the same members: the same list -/
theorem sort_eq {as bs : List Int} (ha : as.Pairwise (· < ·)) (h : ∀ k, k ∈ as ↔ k ∈ bs) (hb : bs.Nodup) : bs.mergeSort (fun a b => decide (a ≤ b)) = as := by
  have na : as.Nodup := ha.imp fun {a b} h => Int.ne_of_lt h
  refine List.Perm.eq_of_pairwise (le := fun a b => decide (a ≤ b) = true) (fun a b _ _ h1 h2 => ?_) (List.pairwise_mergeSort (fun a b c h1 h2 => ?_) (fun a b => ?_) bs) (ha.imp fun {a b} h => by rw [decide_eq_true_eq]; omega) ((List.mergeSort_perm bs _).trans (perm_of hb na fun k => (h k).symm))
  · simp only [decide_eq_true_eq] at h1 h2; omega
  · simp only [decide_eq_true_eq] at h1 h2 ⊢; omega
  · simp only [Bool.or_eq_true, decide_eq_true_eq]; omega
section
variable {C : Cn} {H0 : Hp} {W0 : Gh} {T : Hid} {Wx : WX} {sg : L2.St} {X : Cx} {F : FT} {k : Nat} {P : Pr} {t : Ct}
def tLnSet (K : PySem.W.Frag) (ta : TE) : TE := fun σ H Q => ta σ H fun x H1 => ∃ (l : Addr) (ns : List Int), x = .ref l ∧ (SqL K H1 l (ns.map V.int) ∨ SqT K H1 l (ns.map V.int)) ∧ ns.length ≤ 1000 ∧ Q (.int ((dedI ns).length : Nat)) H1
theorem peLnSet {a : Expr} {ta : TE} {p p2 q pos : Pos} (hg : Gl X "len") (hm : X.mg "len" = none) (hg2 : Gl X "set") (hm2 : X.mg "set" = none) (ha : PE X a ta) (hc : X.calm = true)
    (na : starEach [a] X.env = (false, eval a X.env) :: starEach [] X.env) : PE X (.Call (.Name "len" p) [.Call (.Name "set" p2) [a] [] q] [] pos) (tLnSet X.K ta) := by
  refine ⟨fun pins s σ H Q I h => ?_⟩
  refine Call_ (ld_blt I hg hm boot_len ?_)
  refine PyProof.Rows.callWith_builtin1 (PyProof.Rows.args_cons ?_ rfl) rfl rfl
  refine Call_ (ld_blt I hg2 hm2 boot_set ?_)
  refine PyProof.Rows.callWith_type1 (PyProof.Rows.args_cons (thn (ha.run pins s σ H _ I h) fun v s1 ⟨x, H1, I1, r1, q1⟩ => PyProof.Rows.args_nil ?_) na) na rfl
  obtain ⟨l, ns, rfl, hq, hl, q1⟩ := q1
  cases r1
  have lle : (dedI ns).length ≤ ns.length := by
    have := PyProof.Rows.firstMet_length_le (fun i => ns.getD i 0) ns.length
    rw [dedI_met] at this
    exact this
  rcases hq with hq | hq
  · obtain ⟨its, r, pl, hz⟩ := I1.list hq
    have hlen : its.toArray.size = ns.length := by rw [List.size_toArray, ← r.length, List.length_map]
    refine call_set_list (I1.ok.hd hc) pl.isList (by simpa using RZ.intsAre_vals r) (by rw [hlen]; unfold scanBound; omega) fun h' tk hS hk => ?_
    refine PyProof.Rows.args_nil ?_
    rw [hlen, dedI_met] at hS
    obtain ⟨o, es, ep, t, ho, hex, hd, _, _, _, hf, hn⟩ := hS
    have I2 : Inv X pins σ H1 { s1 with heap := h', toks := tk } := I1.kept fun b o e => hk b o (Heap.lt_size e) e
    exact call_len_set ho hex hd hf (by rw [hn] <;> omega) ⟨.int (dedI ns).length, H1, I2.tok _, ⟨_, by rw [hn]⟩, q1⟩
  · obtain ⟨its, r, pl, hz⟩ := I1.tuple hq
    refine call_set_tupI ns (I1.ok.hd hc) pl (by simpa using RZ.intsAre_vals r) (by unfold scanBound; omega) fun h' tk c hS hc' hk => ?_
    refine PyProof.Rows.args_nil ?_
    obtain ⟨o, es, ep, t, ho, hex, hd, _, nd, hm', _, hf, hn, _⟩ := hS
    have I2 : Inv X pins σ H1 { s1 with heap := h', toks := tk } := I1.kept fun b o e => hk b o e
    have e : es.size = (dedI ns).length := by
      have := (perm_of nd (dedI_nodup ns) fun j => by rw [← hm' j, dedI_mem]; simp).length_eq
      rw [List.length_map, Array.length_toList] at this
      exact this
    exact call_len_set ho hex hd hf (by rw [e] <;> omega) ⟨.int (dedI ns).length, H1, I2.tok _, ⟨_, by rw [e]⟩, q1⟩
theorem intsOf_rep {U : Gh} {v : Val} {x : V} {ns : List Int} {H : Hp} (g : Cg C X) (sb : Sub U H) (h : intsOf v = some ns) (rx : Rep C U v x) : ∃ l, x = .ref l ∧ (SqL X.K H l (ns.map V.int) ∨ SqT X.K H l (ns.map V.int)) := by
  unfold intsOf at h
  split at h
  · obtain ⟨a, vs, rfl, tt, rs⟩ := rep_tup (C := C) (W := U) rx
    refine ⟨a, rfl, .inr ?_⟩
    rw [← ints_of rs h, g.hK]
    exact tt.sq sb
  · obtain ⟨a, vs, rfl, tt, rs⟩ := rep_lst (C := C) (W := U) rx
    refine ⟨a, rfl, .inl ?_⟩
    rw [← ints_of rs h]
    exact .inl (.inl (sb _ _ tt))
  · cases h
theorem sLenSet (g : CxG C P t k X) {a : Expr} {ca : CE} {p p2 q pos : Pos} (hb : ("len" : Str) ∈ P.bl) (hg : Gl X "len") (hb2 : ("set" : Str) ∈ P.bl) (hg2 : Gl X "set") (ha : PE X a (tR C H0 W0 T Wx (evE F ca))) (na : starEach [a] X.env = (false, eval a X.env) :: starEach [] X.env) :
    PE X (.Call (.Name "len" p) [.Call (.Name "set" p2) [a] [] q] [] pos) (tR C H0 W0 T Wx (evE F (.lenSet ca))) := by
  refine (peLnSet hg (g.bl _ hb) hg2 (g.bl _ hb2) (peV ha) g.calm na).conv ?_
  rintro sg H Q ⟨W, r, s, o, p⟩
  rw [evE] at p
  refine ⟨W, r, s, o, p.bind.imp ?_⟩
  rintro x G ⟨U, r1, s1, v, l1, o1, rx, p1⟩
  split at p1
  · rename_i ns hns
    split at p1
    · rename_i hz
      obtain ⟨l, rfl, hq⟩ := intsOf_rep g.toCg o1.sub hns rx
      exact ⟨l, ns, rfl, hq, hz, p1 U _ G (Gh.le.refl _) o1 (show Rep C U (.int _) _ from mk_int)⟩
    · exact p1.elim
  · exact p1.elim
def tSrtSet (K : PySem.W.Frag) (ta : TE) : TE := fun σ H Q => ta σ H fun x H1 => ∃ (l : Addr) (ns : List Int), x = .ref l ∧ SqT K H1 l (ns.map V.int) ∧ ns.length ≤ 60 ∧ ∀ p, H1 p = none → Q (.ref p) (upd H1 p (.lst (((dedI ns).mergeSort fun a b => decide (a ≤ b)).map V.int)))
theorem peSrtSet {a : Expr} {ta : TE} {p p2 q pos : Pos} (hg : Gl X "sorted") (hm : X.mg "sorted" = none) (hg2 : Gl X "set") (hm2 : X.mg "set" = none) (ha : PE X a ta) (hc : X.calm = true)
    (na : starEach [a] X.env = (false, eval a X.env) :: starEach [] X.env) : PE X (.Call (.Name "sorted" p) [.Call (.Name "set" p2) [a] [] q] [] pos) (tSrtSet X.K ta) := by
  refine ⟨fun pins s σ H Q I h => ?_⟩
  refine Call_ (ld_blt I hg hm boot_sorted ?_)
  refine PyProof.Rows.callWith_builtin1 (PyProof.Rows.args_cons ?_ rfl) rfl rfl
  refine Call_ (ld_blt I hg2 hm2 boot_set ?_)
  refine PyProof.Rows.callWith_type1 (PyProof.Rows.args_cons (thn (ha.run pins s σ H _ I h) fun v s1 ⟨x, H1, I1, r1, q1⟩ => PyProof.Rows.args_nil ?_) na) na rfl
  obtain ⟨l, ns, rfl, hq, hl, q1⟩ := q1
  cases r1
  obtain ⟨its, r, pl, hz⟩ := I1.tuple hq
  refine call_set_tupI ns (I1.ok.hd hc) pl (by simpa using RZ.intsAre_vals r) (by unfold scanBound; omega) fun h' tk c hS hc' hk => ?_
  refine PyProof.Rows.args_nil ?_
  have I2 : Inv X pins σ H1 { s1 with heap := h', toks := tk } := I1.kept fun b o e => hk b o e
  refine sorted_set (s := { s1 with heap := h', toks := tk }) hS (I2.ok.hd hc) (by omega) fun s' p out c' ms kk gg oo hp hgp hi hs hm' hl' => ?_
  have em : (dedI ns).mergeSort (fun a b => decide (a ≤ b)) = ms := sort_eq hs (fun j => by rw [hm' j, dedI_mem]; simp) (dedI_nodup ns)
  have hlen : (ms.map V.int).length ≤ sizeLine := by rw [List.length_map, hl', sizeLine_eq]; omega
  have hn : H1 p = none := I2.hok.fresh hp
  have J : Inv X pins σ (upd H1 p (.lst (ms.map V.int))) { ({ s1 with heap := h', toks := tk } : Shared) with heap := s'.heap, gens := s'.gens, drawn := s'.drawn, toks := s'.toks } :=
    I2.call (ch := []) (Un.laid kk hp hn) (I2.hok.laid kk hp ⟨hlen, out.toList, c', vals_of_ints hi, hgp⟩) (by rw [gg]; exact I2.bare) (fun _ z => nomatch z)
  have e : s' = { s1 with heap := s'.heap, gens := s'.gens, drawn := s'.drawn, toks := s'.toks } := by
    cases s'
    cases s1
    cases oo
    rfl
  rw [e]
  rw [em] at q1
  exact ⟨.ref p, _, J, rfl, q1 p hn⟩
theorem sSrtSet (g : CxG C P t k X) {a : Expr} {ca : CE} {p p2 q pos : Pos} (hb : ("sorted" : Str) ∈ P.bl) (hg : Gl X "sorted") (hb2 : ("set" : Str) ∈ P.bl) (hg2 : Gl X "set") (ha : PE X a (tR C H0 W0 T Wx (evE F ca))) (na : starEach [a] X.env = (false, eval a X.env) :: starEach [] X.env) :
    PE X (.Call (.Name "sorted" p) [.Call (.Name "set" p2) [a] [] q] [] pos) (tR C H0 W0 T Wx (evE F (.srtSet ca))) := by
  refine (peSrtSet hg (g.bl _ hb) hg2 (g.bl _ hb2) (peV ha) g.calm na).conv ?_
  rintro sg H Q ⟨W, r, s, o, p⟩
  rw [evE] at p
  refine ⟨W, r, s, o, p.bind.imp ?_⟩
  rintro x G ⟨U, r1, s1, v, l1, o1, rx, p1⟩
  cases v with
  | tup xs =>
    dsimp only at p1
    split at p1
    · rename_i ns hns
      split at p1
      · rename_i hz
        obtain ⟨a, vs, rfl, tt, rs⟩ := rep_tup (C := C) (W := U) rx
        refine ⟨a, ns, rfl, ?_, hz, fun q nq => gives_of o1 p1 q _ nq (reps_ints _)⟩
        rw [← ints_of rs hns, g.hK]
        exact tt.sq o1.sub
      · exact p1.elim
    · exact p1.elim
  | _ => exact p1.elim
end
end Gz
/-! defs as values -/
namespace Gz
open PySem PySem.Spec PyProof.Rows L2
section
variable {C : Cn} {H0 : Hp} {W0 : Gh} {T : Hid} {Wx : WX} {sg : L2.St} {X : Cx} {F : FT} {k : Nat} {P : Pr} {t : Ct}
/-- how a call begins: what is called is a name, or a place of a list -/
def okCallee : Expr → Bool
  | .Name .. => true
  | .Subscript .. => true
  | _ => false
theorem callBegins {M : Model} {A : Around} {E : Value → Shared → Prop} {s : Shared} {env : Env} {fE : Expr} {args : List Expr} {pos : Pos} {Q : Value → Shared → Prop} (ok : okCallee fE = true)
    (h : wpAny M A (eval fE env) (fun f s₁ => wpAny M A (callWith pos f [] (backTo pos (starEach args env)) []) Q E s₁) E s) : wpAny M A (eval (.Call fE args [] pos) env) Q E s := by
  cases fE with
  | Name => exact Call_ h rfl
  | Subscript => exact Call_ h rfl
  | _ => cases ok
theorem sCallv (g : CxG C P t k X) (tk : Takes X Wx) (fo : FnsOk C F k X) {fE e : Expr} {es : List Expr} {ce : CE} {cs : CEs} {pos : Pos} (ok : okCallee fE = true) (hf : PE X fE (tR C H0 W0 T Wx (evE F ce)))
    (ha : PA X (e :: es) (tA C H0 W0 T Wx (evA F cs))) (he : starEach (e :: es) X.env = (false, eval e X.env) :: starEach es X.env) (hpl : (backTo pos (starEach es X.env)).any (·.1) = false) :
    PE X (.Call fE (e :: es) [] pos) (tR C H0 W0 T Wx (evE F (.callv ce cs))) := by
  constructor
  intro pins s0 sg H Q I h
  obtain ⟨W, r, s, o, p⟩ := h
  rw [evE] at p
  refine callBegins ok (thn ((peV hf).run pins s0 sg H (fun v G => ∃ U r1 s1 g, Okk C H0 W0 T U r1 s1 sg G ∧ Rep C U g v ∧ Post C H0 W0 T Wx sg (RvR C H0 T sg) U Q (match g with
    | .fn f => (evA F cs r1 s1).bind fun xs r s => match F f xs s with
      | .ok v s => .ok v r s
      | .exc e s => .exc e r s
      | .err => .err
    | _ => .err)) I ⟨W, r, s, o, p.bind.imp ?_⟩) ?_)
  · rintro x G ⟨U, r1, s1, v, l1, o1, rx, p1⟩
    exact ⟨U, r1, s1, v, o1, rx, p1⟩
  · rintro u s1 ⟨v, G, I1, rv, U, r1, s1', gv, o1, rx, p1⟩
    cases gv with
    | fn f =>
      rw [Rep] at rx
      obtain ⟨a, x, rfl, hx, hm⟩ := rx
      cases rv
      obtain ⟨fa, fd, ps, h1, h2, h3, hl, h4⟩ := fo f x hx
      rw [g.hm, hm] at h1
      cases h1
      refine PySem.W.callWith_K (h₀ := X.base) I1.ok.mod.kin h2 (thn (ha.run pos pins s1 sg G (fun vs G2 => spF C F f ps.length vs G2 Q (WE Wx sg)) I1 ⟨U, r1, s1', o1, p1.bind.imp ?_⟩) ?_) he hpl
      · rintro y G2 ⟨U2, r2, s2, w, l2, o2, ry, p2⟩
        exact callP hl o2 ry p2
      · rintro us s2 ⟨vs, H2, I2, rr, q⟩
        exact ⟨I2.kIn, runFG h4 g.gd g.room h3 (passAt tk sg) I2 rr q⟩
    | _ => exact p1.elim
theorem sFn (g : CxG C P t k X) (fo : FnsOk C F k X) {f : Nat} {x : Str} {pos : Pos} (hf : C.fns[f]? = some x) (hg : Gl X x) (hdb : (x == ("__debug__" : Str)) = false) : PE X (.Name x pos) (tR C H0 W0 T Wx (evE F (.cst (.fn f)))) := by
  obtain ⟨fa, fd, ps, h1, h2, h3, hl, h4⟩ := fo f x hf
  refine sCst (pe_glob (v := .ref fa) hg h1 rfl hdb) fun W => ?_
  rw [Rep]
  exact ⟨fa, x, rfl, hf, by rw [← g.hm]; exact h1⟩
end
end Gz
/-! a def among defs -/
namespace Gz
open PySem PySem.Spec PyProof.Rows L2
theorem slot_fn_eq : PySem.Slot "function" (cmpInfo .Eq).2.1 "object.__eq__" :=
  .of (owner := "object") (n := "__eq__") (by rw [typeLookup_type, builtinLookup_eq_fast]; kernel_rfl) (by decide +kernel) (by decide +kernel) (by decide +kernel)
    (by first | exact .inl (by decide +kernel) | exact .inr (by decide +kernel)) (by rw [isSubtype_type]; kernel_rfl)
theorem slot_fn_eq2 : PySem.Slot "function" (cmpInfo .Eq).2.2 "object.__eq__" := slot_fn_eq
theorem rcFn {A : Around} {s : Shared} {a b : Addr} {oa ob : Obj} (hne : a ≠ b) (ha : s.heap.get? a = some oa) (ca : oa.cls = .type "function") (hb : s.heap.get? b = some ob) (cb : ob.cls = .type "function") (hu : A.units < cLine) : SeqAt.RcAt A s (.ref a) (.ref b) false := fun prog w E Q h => by
  have ta : s.TypeIs (.ref a) "function" := ⟨oa, ha, ca⟩
  have tb : s.TypeIs (.ref b) "function" := ⟨ob, hb, cb⟩
  have na : oa.cls ≠ .type "tuple" := by rw [ca]; decide
  have nb : ob.cls ≠ .type "tuple" := by rw [cb]; decide
  rcases hi : cmpInfo CmpOp.Eq with ⟨sym, f, r⟩
  have h1 := slot_fn_eq
  have h2 := slot_fn_eq2
  rw [hi] at h1 h2
  simp only [richCompare, hi, ta.oneThing_none]
  try with_reducible refine wpAny_holding ?_
  refine wpAny_bind (wpAny_cRoomFor_or (.inr hu) ?_)
  refine wpAny_bind (wpAny_typeOf ta (wpAny_bind (wpAny_typeOf tb ?_)))
  have hn : (Value.type "function" != Value.type "function") = false := by decide
  simp only [hn, Bool.false_eq_true, if_false]
  refine wpAny_bind (wpAny_pure ?_)
  simp only [Bool.false_eq_true, if_false, Bool.not_false, if_true]
  refine wpAny_bind (m := tryCompare (.ref a) _ (.ref b)) (wpAny_tryCompare_declines ta h1 (wpAny_call_entry h1 ta F.cmpEntry_eq (objEq_entry_other hne ha hb na ⟨_, rfl, rfl, ?_⟩) (F.cmpArgs_eq _ _)))
  refine wpAny_bind (m := tryCompare (.ref b) _ (.ref a)) (wpAny_tryCompare_declines tb h2 (wpAny_call_entry h2 tb F.cmpEntry_eq (objEq_entry_other (Ne.symm hne) hb ha nb ⟨_, rfl, rfl, ?_⟩) (F.cmpArgs_eq _ _)))
  exact wpAny_bind (wpAny_rule (wpAny_bind (wpAny_isSame_ref_other hne ha hb na (wpAny_pure h))))
section
variable {C : Cn} {H0 : Hp} {W0 : Gh} {T : Hid} {Wx : WX} {sg : L2.St} {X : Cx} {F : FT} {k : Nat} {P : Pr} {t : Ct}
inductive PFns (C : Cn) (X : Cx) : List Nat → List Expr → Prop
  | nil : PFns C X [] []
  | cons {n : Nat} {fs : List Nat} {x : Str} {pos : Pos} {es : List Expr} (hf : C.fns[n]? = some x) (hg : Gl X x) (hd : (x == ("__debug__" : Str)) = false) (r : PFns C X fs es) : PFns C X (n :: fs) (.Name x pos :: es)
/-- the defs' objects -/
inductive FnVs (C : Cn) (X : Cx) : List Nat → List V → Prop
  | nil : FnVs C X [] []
  | cons {n : Nat} {fs : List Nat} {x : Str} {a : Addr} {vs : List V} (hf : C.fns[n]? = some x) (hm : X.mg x = some (.ref a)) (r : FnVs C X fs vs) : FnVs C X (n :: fs) (.ref a :: vs)
theorem paFns (g : CxG C P t k X) : ∀ {fs : List Nat} {es : List Expr}, PFns C X fs es → ∃ vs, FnVs C X fs vs ∧ PA X es (fun _ H Q => Q vs H)
  | [], _, .nil => ⟨[], .nil, pa_nil.conv fun _ _ _ h => h⟩
  | n :: fs, _, .cons (x := x) hf hg hd r => by
    obtain ⟨vs, h1, h2⟩ := paFns g r
    obtain ⟨fa, od, fd, sl, hm, _⟩ := g.fo n x hf
    exact ⟨.ref fa :: vs, .cons hf hm h1, (pa_cons (pe_glob (v := .ref fa) hg hm rfl hd) h2 rfl).conv fun _ _ _ h => h⟩
theorem fn_cls (g : CxG C P t k X) {n : Nat} {x : Str} {a : Addr} (hf : C.fns[n]? = some x) (hm : X.mg x = some (.ref a)) : ∃ od fd sl, X.K.lookup a = some ⟨.type "function", od, .func fd, sl⟩ ∧ fd.name = x := by
  obtain ⟨fa, od, fd, sl, h1, h2, h3⟩ := g.fo n x hf
  rw [hm] at h1
  cases h1
  exact ⟨od, fd, sl, h2, h3⟩
theorem fn_same (g : CxG C P t k X) (nd : C.fns.Nodup) {n m : Nat} {x y : Str} {a b : Addr} (hf : C.fns[n]? = some x) (hm : X.mg x = some (.ref a)) (hf2 : C.fns[m]? = some y) (hm2 : X.mg y = some (.ref b)) : a = b ↔ n = m := by
  constructor
  · intro e
    subst e
    obtain ⟨_, fd, _, q1, q2⟩ := fn_cls g hf hm
    obtain ⟨_, fd2, _, q3, q4⟩ := fn_cls g hf2 hm2
    rw [q1] at q3
    cases q3
    rw [q2] at q4
    subst q4
    obtain ⟨h1, e1⟩ := List.getElem?_eq_some_iff.mp hf
    obtain ⟨h2, e2⟩ := List.getElem?_eq_some_iff.mp hf2
    rcases Nat.lt_trichotomy n m with z | z | z
    · exact absurd (e1.trans e2.symm) (List.pairwise_iff_getElem.mp nd _ _ h1 h2 z)
    · exact z
    · exact absurd (e2.trans e1.symm) (List.pairwise_iff_getElem.mp nd _ _ h2 h1 z)
  · intro e
    subst e
    rw [hf] at hf2
    cases hf2
    rw [hm] at hm2
    cases hm2
    rfl
theorem fns_any (g : CxG C P t k X) (nd : C.fns.Nodup) {f : Nat} {y : Str} {b : Addr} (hf : C.fns[f]? = some y) (hm : X.mg y = some (.ref b)) : ∀ {fs : List Nat} {vs : List V} {us : List Value}, FnVs C X fs vs → Vals vs us → us.any (· == .ref b) = fs.contains f ∧ ∀ u ∈ us, ∃ (a : Addr) (x : Str) (n : Nat), u = .ref a ∧ C.fns[n]? = some x ∧ X.mg x = some (.ref a)
  | [], _, _, .nil, r => by
    cases r
    exact ⟨rfl, fun u hu => by simp at hu⟩
  | n :: fs, _, _, .cons (x := x) (a := a) h1 h2 h3, r => by
    cases r with
    | cons r1 r2 =>
      cases r1
      obtain ⟨i1, i2⟩ := fns_any g nd hf hm h3 r2
      refine ⟨?_, fun u hu => ?_⟩
      · rw [List.any_cons, i1, List.contains_cons]
        congr 1
        rw [Bool.eq_iff_iff, beq_iff_eq, beq_iff_eq]
        have := fn_same g nd h1 h2 hf hm
        constructor
        · intro e
          cases e
          exact (this.mp rfl).symm
        · intro e
          rw [this.mpr e.symm]
      · rcases List.mem_cons.mp hu with rfl | hu
        · exact ⟨a, x, n, rfl, h1, h2⟩
        · exact i2 u hu
theorem opInF (g : CxG C P t k X) (nd : C.fns.Nodup) (ng : Bool) : OpR X (compareOp (if ng then .NotIn else .In)) (fun x y H Q => ∃ f nm b p fs vs, x = .ref b ∧ C.fns[f]? = some nm ∧ X.mg nm = some (.ref b) ∧ y = .ref p ∧ SqT X.K H p vs ∧ FnVs C X fs vs ∧ Q (.bl (if ng then !(fs.contains f) else fs.contains f)) H) := by
  intro pins s sg H x y v u Q I rx ry h
  obtain ⟨f, nm, b, p, fs, vs, rfl, hf, hm, rfl, sq, fv, q⟩ := h
  cases rx
  cases ry
  obtain ⟨its, r, pl, hz⟩ := I.tuple sq
  obtain ⟨e, all⟩ := fns_any g nd hf hm fv r
  have un := g.un
  have eq : ∀ w, w ∈ its.toArray → SeqAt.EqAt X.A.in1 s w (.ref b) (w == .ref b) := fun w hw => by
    obtain ⟨a, x, n, rfl, h1, h2⟩ := all w (by simpa using hw)
    by_cases z : a = b
    · subst z
      have : (Value.ref a == Value.ref a) = true := by simp
      rw [this]
      exact SeqAt.EqAt.same _
    · have : (Value.ref a == Value.ref b) = false := by simpa using z
      rw [this]
      obtain ⟨_, _, _, k1, _⟩ := fn_cls g h1 h2
      obtain ⟨_, _, _, k2, _⟩ := fn_cls g hf hm
      exact SeqAt.EqAt.of_refs z (rcFn z (I.kIn _ _ k1) rfl (I.kIn _ _ k2) rfl (by show X.A.units + 1 < cLine; omega))
  have e2 : its.toArray.any (· == .ref b) = fs.contains f := by rw [← e]; simp
  cases ng with
  | false => exact SeqAt.in_tupleAt (· == .ref b) pl eq ⟨.bl _, H, I, rfl, by rw [e2]; exact q⟩
  | true => exact SeqAt.notIn_tupleAt (· == .ref b) pl eq ⟨.bl _, H, I, rfl, by rw [e2]; exact q⟩
theorem FnVs.len {fs : List Nat} {vs : List V} (h : FnVs C X fs vs) : vs.length = fs.length := by
  induction h with
  | nil => rfl
  | cons _ _ _ ih => rw [List.length_cons, List.length_cons, ih]
theorem inFP (g : CxG C P t k X) {ng : Bool} {ca : CE} {fs : List Nat} {vs : List V} (fv : FnVs C X fs vs) (hl : fs.length ≤ 1000) {sg : L2.St} {Q : VK} {W : Gh} {r : Rho} {s : Sto} (p : Post C H0 W0 T Wx sg (RvR C H0 T sg) W Q (evE F (.inF ng ca fs) r s)) :
    Post C H0 W0 T Wx sg (VR C) W (fun x G => vs.length ≤ sizeLine ∧ NewT G vs fun y G2 => ∃ f nm b q fs vs, x = .ref b ∧ C.fns[f]? = some nm ∧ X.mg nm = some (.ref b) ∧ y = .ref q ∧ SqT X.K G2 q vs ∧ FnVs C X fs vs ∧ Q (.bl (if ng then !(fs.contains f) else fs.contains f)) G2) (frz (evE F ca r s)) := by
  rw [evE] at p
  refine p.bind.imp ?_
  rintro x G ⟨U, r1, s1, v, l1, o1, rx, p1⟩
  cases v with
  | fn f =>
    have rx : Rep C U (.fn f) x := rx
    rw [Rep] at rx
    obtain ⟨a, nm, rfl, hf, hm⟩ := rx
    refine ⟨by rw [fv.len, sizeLine_eq]; omega, fun q us nq _ => ⟨f, nm, a, q, fs, vs, rfl, hf, by rw [g.hm]; exact hm, rfl, .inl (.inr ⟨_, upd_same⟩), fv, ?_⟩⟩
    exact p1 U _ _ (Gh.le.refl _) (o1.newL nq _) (by show Rep C U (.bl _) _; rw [Rep])
  | _ => exact p1.elim
theorem sInF (g : CxG C P t k X) (nd : C.fns.Nodup) {ng : Bool} {a : Expr} {ca : CE} {fs : List Nat} {es : List Expr} {n : Nat} {p1 pos : Pos} (ha : PE X a (tR C H0 W0 T Wx (evE F ca))) (pf : PFns C X fs es) (hl : fs.length ≤ 1000) :
    PE X (.Compare a [if ng then .NotIn else .In] [.Tuple es n p1] pos) (tR C H0 W0 T Wx (evE F (.inF ng ca fs))) ∧ PT X (.Compare a [if ng then .NotIn else .In] [.Tuple es n p1] pos) (tT C H0 W0 T Wx (tb (evE F (.inF ng ca fs)))) := by
  obtain ⟨vs, fv, pa⟩ := paFns g pf
  constructor
  · refine (pe_cmpR (opInF g nd ng) (peV ha) (peTup pa) (by cases ng <;> rfl)).conv ?_
    rintro sg H Q ⟨W, r, s, o, p⟩
    exact ⟨W, r, s, o, inFP g fv hl p⟩
  · refine (pt_cmpR (opInF g nd ng) (peV ha) (peTup pa) (by cases ng <;> rfl)).conv ?_
    rintro sg H Q ⟨W, r, s, o, p⟩
    exact ⟨W, r, s, o, inFP g fv hl (tb_post p)⟩
end
end Gz
/-! The checker: that a term of the core language is the program's. -/
namespace Gz
open PySem PySem.Spec PyProof.Rows L2
/-! ### plain facts of the syntax -/
def notStar : Expr → Bool
  | .Starred .. => false
  | _ => true
def notIf : Expr → Bool
  | .IfExp .. => false
  | _ => true
def plainT : Expr → Bool
  | .UnaryOp .Not _ _ => false
  | .BoolOp .. => false
  | .IfExp .. => false
  | .Compare .. => false
  | _ => true
def notSlice : Expr → Bool
  | .Slice .. => false
  | _ => true
def notSet : Expr → Bool
  | .Set .. => false
  | _ => true
def notCall : Expr → Bool
  | .Call (.Name _ _) [] [] _ => false
  | _ => true
def notTup : Expr → Bool
  | .Tuple .. => false
  | _ => true
def notComp : Expr → Bool
  | .ListComp .. => false
  | .SetComp .. => false
  | .DictComp .. => false
  | _ => true
theorem star_cons {e : Expr} {es : List Expr} {env : Env} (h : notStar e = true) : starEach (e :: es) env = (false, eval e env) :: starEach es env := by
  cases e <;> first | rfl | cases h
theorem isTrue_plain {e : Expr} {env : Env} (h : plainT e = true) : ∀ whole, isTrue e env whole = (do let v ← whole; standAt e.pos; holding [v] (truthy v)) := by
  intro whole
  cases e with
  | UnaryOp op a p => cases op <;> first | rfl | cases h
  | BoolOp => cases h
  | IfExp => cases h
  | Compare => cases h
  | _ => rfl
theorem plainIx_of {b : Expr} (h : notSlice b = true) : PlainIx b := by
  intro o i
  cases b <;> first | rfl | cases h
theorem folded_of {e : Expr} {env : Env} (h : notSet e = true) (x : Value) : foldedSetIterable e env x = pure x := by
  cases e <;> first | rfl | cases h
theorem base_of {o : Expr} {nm : Str} {env : Env} (h : notCall o = true) (w : Sem Value) : attributeBase o nm env w = w := by
  unfold attributeBase
  split
  · cases h
  · rfl
theorem marks_of {op : CmpOp} {b : Expr} (h : notSet b = true) : behindInMarks op b = false := by
  cases b <;> first | rfl | cases h
theorem lmarks_of {o1 o2 : CmpOp} {b c : Expr} (h : notSet c = true) : lastMarks [o1, o2] [b, c] = false := by
  unfold lastMarks
  exact marks_of h
theorem sole_of {tg e : Expr} {l : Nat} {env : Env} (h : notComp e = true) : swapsWithSole [tg] e l env = pure false := by
  unfold swapsWithSole swapsWith
  cases e <;> first | rfl | cases h
theorem swaps_of {tg : Option Expr} {e : Expr} {l : Nat} {env : Env} (h : notComp e = true) : swapsWith e tg l env = pure false := by
  unfold swapsWith
  cases e <;> first | rfl | cases h
theorem sole_tup {ts : List Expr} {k : Nat} {p : Pos} {e : Expr} {l : Nat} {env : Env} : swapsWithSole [.Tuple ts k p] e l env = pure false := by
  unfold swapsWithSole swapsWith
  cases e <;> rfl
theorem stores_of {tg e : Expr} {env : Env} (h : notTup e = true) : swappedStores [tg] e env = pure none := by
  unfold swappedStores
  cases e <;> first | (cases tg <;> rfl) | cases h
/-! ### names -/
def vis (sc : Scope) (x : Str) : Bool := match sc.names.lookup x with
  | some .local => true
  | some .cell => true
  | some .free => true
  | _ => false
def locb (sc : Scope) (x : Str) : Bool := match sc.names.lookup x with
  | some .local => true
  | some .cell => true
  | _ => false
def okN (x : Str) : Bool := !(x == ("__debug__" : Str)) && !(x == ("__classdict__" : Str))
def slotb (t : Ct) (i : Nat) (x : Str) : Bool := decide (t.N[i]? = some x) && vis t.sc x && okN x
def glob (t : Ct) (x : Str) : Bool := decide (t.sc.names.lookup x = some .globalImplicit)
theorem vis_ok {sc : Scope} {x : Str} (h : vis sc x = true) : Vis sc x := by
  unfold vis at h
  split at h
  · rename_i e; exact .inl e
  · rename_i e; exact .inr (.inl e)
  · rename_i e; exact .inr (.inr e)
  · cases h
theorem loc_ok {sc : Scope} {x : Str} (h : locb sc x = true) : Loc sc x := by
  unfold locb at h
  split at h
  · rename_i e; exact .inl e
  · rename_i e; exact .inr e
  · cases h
section
variable {C : Cn} {P : Pr} {t : Ct} {k : Nat} {X : Cx}
structure SlotF (X : Cx) (i : Nat) (x : Str) : Prop where
  ix : X.N[i]? = some x
  vis : Vis X.env.scope x
  d : (x == ("__debug__" : Str)) = false
  c : (x == ("__classdict__" : Str)) = false
theorem slot_ok (g : CxG C P t k X) {i : Nat} {x : Str} (h : slotb t i x = true) : SlotF X i x := by
  unfold slotb okN at h
  simp only [Bool.and_eq_true, decide_eq_true_eq, Bool.not_eq_true'] at h
  exact ⟨by rw [g.hN]; exact h.1.1, by rw [g.hsc]; exact vis_ok h.1.2, h.2.1, h.2.2⟩
theorem glob_ok (g : CxG C P t k X) {x : Str} (h : glob t x = true) : Gl X x := by
  unfold glob at h
  show X.env.scope.names.lookup x = _
  rw [g.hsc]
  exact of_decide_eq_true h
end
/-! ### values that are written -/
def ckK : Val → Const → Bool
  | .non, .none => true
  | .bl b, .bool c => b == c
  | .int i, .int j => i == j
  | .str x, .str y => x == y
  | _, _ => false
def vEq : Val → Val → Bool
  | .non, .non => true
  | .bl b, .bl c => b == c
  | .int i, .int j => i == j
  | .str x, .str y => x == y
  | .tup xs, .tup ys => match ints? xs, ints? ys with
    | some a, some b => a == b
    | _, _ => false
  | _, _ => false
theorem ints_inj : ∀ {xs : List Val} {ns : List Int}, ints? xs = some ns → xs = ns.map .int
  | [], _, h => by cases h; rfl
  | .int i :: r, ns, h => by
    rw [ints?] at h
    cases e : ints? r with
    | none => rw [e] at h; cases h
    | some ms =>
      rw [e] at h
      cases h
      rw [ints_inj e]; rfl
  | .non :: _, _, h => by cases h
  | .bl _ :: _, _, h => by cases h
  | .str _ :: _, _, h => by cases h
  | .tup _ :: _, _, h => by cases h
  | .lst _ :: _, _, h => by cases h
  | .fz _ :: _, _, h => by cases h
  | .dct _ :: _, _, h => by cases h
  | .loc _ :: _, _, h => by cases h
  | .fn _ :: _, _, h => by cases h
theorem vEq_ok {a b : Val} (h : vEq a b = true) : a = b := by
  unfold vEq at h
  split at h
  · rfl
  · rw [beq_iff_eq] at h; rw [h]
  · rw [beq_iff_eq] at h; rw [h]
  · rw [beq_iff_eq] at h; rw [h]
  · split at h
    · rename_i e1 e2
      rw [beq_iff_eq] at h
      rw [ints_inj e1, ints_inj e2, h]
    · cases h
  · cases h
/-! ### the checks, form by form -/
section
variable (P : Pr) (t : Ct) (f : CE → Expr → Bool)
def ckVar (i : Nat) : Expr → Bool
  | .Name x _ => slotb t i x
  | _ => false
def ckCst (v : Val) : Expr → Bool
  | .Constant c _ _ => ckK v c
  | .Name x _ => glob t x && okN x && (match v with
    | .fn f => decide (P.fns[f]? = some x)
    | _ => match P.cs.lookup x with
      | some w => vEq w v
      | none => false)
  | _ => false
def ckBin (op : Bop) (a b : CE) : Expr → Bool
  | .BinOp l o r _ => decide (o = opOf op) && f a l && f b r
  | _ => false
def ckNeg (a : CE) : Expr → Bool
  | .UnaryOp .USub l _ => f a l
  | _ => false
def ckNot (a : CE) : Expr → Bool
  | .UnaryOp .Not l _ => f a l && notIf l
  | _ => false
def ckCmp (op : Cop) (a b : CE) : Expr → Bool
  | .Compare l [o] [r] _ => decide (o = copOf op) && f a l && f b r && notSet r
  | _ => false
def ckInV (ng : Bool) (a : CE) (i : Nat) : Expr → Bool
  | .Compare l [o] [.Name x _] _ => decide (o = (if ng then .NotIn else .In)) && f a l && slotb t i x
  | _ => false
def ckFns : List Nat → List Expr → Bool
  | [], [] => true
  | n :: ns, .Name x _ :: es => glob t x && okN x && decide (P.fns[n]? = some x) && ckFns ns es
  | _, _ => false
def ckInF (ng : Bool) (a : CE) (fs : List Nat) : Expr → Bool
  | .Compare l [o] [.Tuple es _ _] _ => decide (o = (if ng then .NotIn else .In)) && f a l && ckFns P t fs es && decide (fs.length ≤ 1000) && decide P.fns.Nodup
  | _ => false
def ckChn (o1 o2 : Cop) (a b c : CE) : Expr → Bool
  | .Compare l [p, q] [m, r] _ => decide (p = copOf o1) && decide (q = copOf o2) && f a l && f b m && f c r && notSet r
  | _ => false
def ckAnd (a b : CE) : Expr → Bool
  | .BoolOp .And [x, y] _ => f a x && notIf x && f b y && notIf y
  | .BoolOp .And (x :: y :: r) p => f a x && notIf x && f b (.BoolOp .And (y :: r) p)
  | _ => false
def ckOr (a b : CE) : Expr → Bool
  | .BoolOp .Or [x, y] _ => f a x && notIf x && f b y && notIf y
  | .BoolOp .Or (x :: y :: r) p => f a x && notIf x && f b (.BoolOp .Or (y :: r) p)
  | _ => false
def ckIte (c a b : CE) : Expr → Bool
  | .IfExp x y z _ => f c x && notIf x && f a y && f b z
  | _ => false
def ckA : CEs → List Expr → Bool
  | .nil, [] => true
  | .cons c cs, e :: es => notStar e && f c e && ckA cs es
  | _, _ => false
def ckTup (cs : CEs) : Expr → Bool
  | .Tuple es _ _ => ckA f cs es
  | _ => false
def ckLst (cs : CEs) : Expr → Bool
  | .List es _ => ckA f cs es
  | _ => false
def ckDct (kvs : List (Key × Val)) : Expr → Bool
  | .Dict [] [] _ => kvs.isEmpty
  | .Dict [some (.Constant (.int i) _ _)] [.Constant (.int j) _ _] _ => match kvs with
    | [(.inl a, .int b)] => i == a && j == b
    | _ => false
  | _ => false
def ckCall (n : Nat) (cs : CEs) : Expr → Bool
  | .Call (.Name x _) es [] _ => glob t x && okN x && decide (P.fns[n]? = some x) && ckA f cs es
  | _ => false
def ckCallv (a : CE) (cs : CEs) : Expr → Bool
  | .Call fE (e :: es) [] _ => okCallee fE && f a fE && ckA f cs (e :: es)
  | _ => false
def ckBltV (b : Bf) (i : Nat) : Expr → Bool
  | .Call (.Name x _) [.Name y _] [] _ => decide (x = bfNm b) && glob t x && P.bl.contains x && slotb t i y
  | _ => false
def ckBlt (b : Bf) (cs : CEs) : Expr → Bool
  | .Call (.Name x _) (e :: es) [] _ => decide (x = bfNm b) && glob t x && P.bl.contains x && ckA f cs (e :: es)
  | _ => false
def ckIsiV (i : Nat) (n : String) : Expr → Bool
  | .Call (.Name x _) [.Name y _, .Name z _] [] _ => decide (x = ("isinstance" : Str)) && glob t x && P.bl.contains x && decide (z = Str.ofString n) && glob t z && P.bl.contains z && tyOk n && slotb t i y
  | _ => false
def ckIsi (a : CE) (n : String) : Expr → Bool
  | .Call (.Name x _) [e, .Name z _] [] _ => decide (x = ("isinstance" : Str)) && glob t x && P.bl.contains x && decide (z = Str.ofString n) && glob t z && P.bl.contains z && tyOk n && notStar e && f a e
  | _ => false
def ckIdxV (i : Nat) (b : CE) : Expr → Bool
  | .Subscript (.Name x _) e _ => slotb t i x && f b e && notSlice e
  | _ => false
def ckIdx (a b : CE) : Expr → Bool
  | .Subscript o e _ => f a o && f b e && notSlice e
  | _ => false
def ckO : CO → Option Expr → Bool
  | .no, none => true
  | .so c, some e => f c e
  | _, _ => false
def ckSlc (a : CE) (lo hi : CO) : Expr → Bool
  | .Subscript o (.Slice l u none _) _ => f a o && ckO f lo l && ckO f hi u
  | _ => false
def ckRev (a : CE) : Expr → Bool
  | .Subscript o (.Slice none none (some (.UnaryOp .USub (.Constant (.int 1) _ _) _)) _) _ => f a o
  | _ => false
def ckMth (m : Mt) (a : CE) (cs : CEs) : Expr → Bool
  | .Call (.Attribute o nm ap) (e :: es) [] cp => decide (nm = mtNm m) && f a o && notCall o && ckA f cs (e :: es) && (ap.endLine == cp.line) && decide ((e :: es).length < 30)
  | _ => false
def ckUpp (a : CE) : Expr → Bool
  | .Call (.Attribute o nm ap) [] [] cp => decide (nm = ("upper" : Str)) && f a o && notCall o && (ap.endLine == cp.line)
  | _ => false
def ckMthV (m : Mt) (i : Nat) (cs : CEs) : Expr → Bool
  | .Call (.Attribute (.Name x _) nm ap) (e :: es) [] cp => decide (nm = mtNm m) && slotb t i x && ckA f cs (e :: es) && (ap.endLine == cp.line) && decide ((e :: es).length < 30)
  | _ => false
def ckApp (i : Nat) (a : CE) : Expr → Bool
  | .Call (.Attribute (.Name x _) nm ap) [e] [] cp => decide (nm = ("append" : Str)) && slotb t i x && notStar e && f a e && (ap.endLine == cp.line)
  | _ => false
def ckPopAt (i : Nat) (a : CE) : Expr → Bool
  | .Call (.Attribute (.Name x _) nm ap) [e] [] cp => decide (nm = ("pop" : Str)) && slotb t i x && notStar e && f a e && (ap.endLine == cp.line)
  | _ => false
def ckIns (i : Nat) (k a : CE) : Expr → Bool
  | .Call (.Attribute (.Name x _) nm ap) [kE, e] [] cp => decide (nm = ("insert" : Str)) && slotb t i x && notStar kE && notStar e && f k kE && f a e && (ap.endLine == cp.line)
  | _ => false
def ckRmv (i : Nat) (a : CE) : Expr → Bool
  | .Call (.Attribute (.Name x _) nm ap) [e] [] cp => decide (nm = ("remove" : Str)) && slotb t i x && notStar e && f a e && (ap.endLine == cp.line)
  | _ => false
def ckPopD (i : Nat) (a : CE) : Expr → Bool
  | .Call (.Attribute (.Name x _) nm ap) [e] [] cp => decide (nm = ("pop" : Str)) && slotb t i x && notStar e && f a e && (ap.endLine == cp.line)
  | _ => false
def ckDctE (k v : CE) : Expr → Bool
  | .Dict [some kE] [e] _ => f k kE && f v e
  | _ => false
def ckKeys : List Int → List (Option Expr) → Bool
  | [], [] => true
  | k :: ks, some (.Constant (.int i) _ _) :: es => k == i && ckKeys ks es
  | _, _ => false
def ckDctM (ks : List Int) (cs : CEs) : Expr → Bool
  | .Dict keys values _ => ckKeys ks keys && ckA f cs values && fitM ks cs && decide (ks ≠ []) && decide (ks.length ≤ 15) && decide ks.Nodup
  | _ => false
def ckSet2 (nm : String) (a : CE) : Expr → Bool
  | .Call (.Name x _) [.Call (.Name y _) [e] [] _] [] _ => decide (x = Str.ofString nm) && glob t x && P.bl.contains x && decide (y = ("set" : Str)) && glob t y && P.bl.contains y && notStar e && f a e
  | _ => false
def ckPop (i : Nat) : Expr → Bool
  | .Call (.Attribute (.Name x _) nm ap) [] [] cp => decide (nm = ("pop" : Str)) && slotb t i x && (ap.endLine == cp.line)
  | _ => false
def ckRng (tp : Bool) (lo hi : CO) : Expr → Bool
  | .Call (.Name x _) [.Call (.Name y _) args [] _] [] _ => decide (x = (if tp then ("tuple" : Str) else "list")) && glob t x && P.bl.contains x && decide (y = ("range" : Str)) && glob t y && P.bl.contains y && (match lo, hi, args with
    | .no, .so c, [a] => notStar a && f c a
    | .so c, .so d, [a, b] => notStar a && notStar b && f c a && f d b
    | _, _, _ => false)
  | _ => false
/-- the names of a target -/
def nmsOf : List Expr → Option (List Str)
  | [] => some []
  | .Name x _ :: r => (nmsOf r).map (x :: ·)
  | _ :: _ => none
def tgNms (tg : List Nat) : Expr → Option (List Str)
  | .Name x _ => if tg.length = 1 then some [x] else none
  | .Tuple es _ _ => if tg.length ≠ 1 then nmsOf es else none
  | _ => none
def storeb (t : Ct) (cells : Str → Bool) (i : Nat) (x : Str) : Bool := decide (t.N[i]? = some x) && locb t.sc x && (cells x || decide (t.sc.names.lookup x = some .local))
def ckI (tg : List Nat) : CI → Expr → Bool
  | .seq c, e => f c e
  | .enum c, .Call (.Name y _) [a] [] _ => decide (tg.length ≠ 1) && decide (y = ("enumerate" : Str)) && glob t y && P.bl.contains y && notStar a && f c a
  | .zip c d, .Call (.Name y _) [a, b] [] _ => decide (tg.length ≠ 1) && decide (y = ("zip" : Str)) && glob t y && P.bl.contains y && notStar a && notStar b && f c a && f d b
  | .rng .no c, .Call (.Name y _) [a] [] _ => decide (tg.length = 1) && decide (y = ("range" : Str)) && glob t y && P.bl.contains y && notStar a && f c a
  | .rng (.so d) c, .Call (.Name y _) [a, b] [] _ => decide (tg.length = 1) && decide (y = ("range" : Str)) && glob t y && P.bl.contains y && notStar a && notStar b && f d a && f c b
  | _, _ => false
def blkb (scope : Scope) (own : List (Str × Nat)) : Bool :=
  decide (scope.kind = .function) && (scope.names.all fun y => decide (scope.names.lookup y.1 = some y.2)) && (own.all fun p => decide (t.N[p.2]? = some p.1)) &&
  (scope.names.all fun y => !decide (y.2 = .free) || decide (t.sc.names.lookup y.1 = some .cell) || decide (t.sc.names.lookup y.1 = some .free)) &&
  (scope.names.all fun y => !(decide (y.2 = .local) || decide (y.2 = .cell)) || (own.map (·.1)).contains y.1 || !t.N.contains y.1)
def blkT (scope : Scope) : Ct := { t with sc := relS scope t.sc, top := false }
def ckCond (g : CE → Expr → Bool) : CO → List Expr → Bool
  | .no, [] => true
  | .so c, [e] => g c e && notIf e
  | _, _ => false
def ckLc (g : Ct → CE → Expr → Bool) (it : CI) (tg : List Nat) (cond : CO) (elt : CE) : Expr → Bool
  | .ListComp e [⟨tgE, iter, ifs, 0⟩] scope _ => (match tgNms tg tgE with
    | some xs => decide (xs.length = tg.length) && blkb t scope (xs.zip tg) && ((xs.zip tg).all fun p => storeb (blkT t scope) (fun x => scope.names.lookup x == some .cell) p.2 p.1)
    | none => false) && ckI P t f tg it iter && notSet iter && ckCond (g (blkT t scope)) cond ifs && g (blkT t scope) elt e
  | _ => false
end
def ckE (P : Pr) : Nat → Ct → CE → Expr → Bool
  | 0, _, _, _ => false
  | n + 1, t, c, e => match c with
    | .var i => ckVar t i e
    | .cst v => ckCst P t v e
    | .bin op a b => ckBin (ckE P n t) op a b e
    | .neg a => ckNeg (ckE P n t) a e
    | .cmp op a b => ckCmp (ckE P n t) op a b e
    | .inV ng a i => ckInV t (ckE P n t) ng a i e
    | .inF ng a fs => ckInF P t (ckE P n t) ng a fs e
    | .chn o1 o2 a b c => ckChn (ckE P n t) o1 o2 a b c e
    | .and a b => ckAnd (ckE P n t) a b e
    | .or a b => ckOr (ckE P n t) a b e
    | .not a => ckNot (ckE P n t) a e
    | .ite c a b => ckIte (ckE P n t) c a b e
    | .tup cs => ckTup (ckE P n t) cs e
    | .lst cs => ckLst (ckE P n t) cs e
    | .lstL cs => ckLst (ckE P n t) cs e
    | .dct kvs => ckDct kvs e
    | .call m cs => ckCall P t (ckE P n t) m cs e
    | .callv a cs => ckCallv (ckE P n t) a cs e
    | .bltV b i => ckBltV P t b i e
    | .blt b cs => ckBlt P t (ckE P n t) b cs e
    | .isiV i ty => ckIsiV P t i ty e
    | .isi a ty => ckIsi P t (ckE P n t) a ty e
    | .idxV i b => ckIdxV t (ckE P n t) i b e
    | .idx a b => ckIdx (ckE P n t) a b e
    | .slc a lo hi => ckSlc (ckE P n t) a lo hi e
    | .rev a => ckRev (ckE P n t) a e
    | .mth m a cs => ckMth (ckE P n t) m a cs e
    | .mthV m i cs => ckMthV t (ckE P n t) m i cs e
    | .upp a => ckUpp (ckE P n t) a e
    | .app i a => ckApp t (ckE P n t) i a e
    | .popAt i a => ckPopAt t (ckE P n t) i a e
    | .pop i => ckPop t i e
    | .ins i k a => ckIns t (ckE P n t) i k a e
    | .rmv i a => ckRmv t (ckE P n t) i a e
    | .popD i a => ckPopD t (ckE P n t) i a e
    | .dctE k v => ckDctE (ckE P n t) k v e
    | .dctM ks es => ckDctM (ckE P n t) ks es e
    | .lenSet a => ckSet2 P t (ckE P n t) "len" a e
    | .srtSet a => ckSet2 P t (ckE P n t) "sorted" a e
    | .rng tp lo hi => ckRng P t (ckE P n t) tp lo hi e
    | .lc it tg cond elt => ckLc P t (ckE P n t) (fun t => ckE P n t) it tg cond elt e
    | .nev => true
end Gz
/-! What is checked is true: expressions. -/
namespace Gz
open PySem PySem.Spec PyProof.Rows L2
section
variable (C : Cn) (H0 : Hp) (W0 : Gh) (F : FT) (k : Nat) (P : Pr)
def SE (t : Ct) (c : CE) (e : Expr) : Prop := ∀ (X : Cx) (T : Hid) (Wx : WX), CxG C P t k X → Takes X Wx → FnsOk C F k X →
  PE X e (tR C H0 W0 T Wx (evE F c)) ∧ (notIf e = true → PT X e (tT C H0 W0 T Wx (tb (evE F c))))
def SA (t : Ct) (cs : CEs) (es : List Expr) : Prop := ∀ (X : Cx) (T : Hid) (Wx : WX), CxG C P t k X → Takes X Wx → FnsOk C F k X → PA X es (tA C H0 W0 T Wx (evA F cs))
end
section
variable {C : Cn} {H0 : Hp} {W0 : Gh} {F : FT} {k : Nat} {P : Pr} {t : Ct} {f : CE → Expr → Bool}
theorem SE.val {c : CE} {e : Expr} (hp : plainT e = true) (h : ∀ (X : Cx) (T : Hid) (Wx : WX), CxG C P t k X → Takes X Wx → FnsOk C F k X → PE X e (tR C H0 W0 T Wx (evE F c))) : SE C H0 W0 F k P t c e :=
  fun X T Wx g tk fo => ⟨h X T Wx g tk fo, fun _ => sValT (h X T Wx g tk fo) (isTrue_plain hp)⟩
theorem oVar {i : Nat} {e : Expr} (h : ckVar t i e = true) : SE C H0 W0 F k P t (.var i) e := by
  unfold ckVar at h
  split at h
  · refine SE.val rfl fun X T Wx g tk fo => ?_
    obtain ⟨h1, h2, h3, h4⟩ := slot_ok g h
    exact sVar h1 h2 h3 h4
  · cases h
theorem oCst {v : Val} {e : Expr} (h : ckCst P t v e = true) : SE C H0 W0 F k P t (.cst v) e := by
  unfold ckCst at h
  split at h
  · refine SE.val rfl fun X T Wx g tk fo => ?_
    unfold ckK at h
    split at h
    · exact sCst pe_non fun W => by rw [Rep]
    · rw [beq_iff_eq] at h; subst h
      exact sCst pe_bl fun W => by rw [Rep]
    · rw [beq_iff_eq] at h; subst h
      exact sCst pe_int fun W => by rw [Rep]
    · rw [beq_iff_eq] at h; subst h
      exact sCst pe_str fun W => by rw [Rep]
    · cases h
  · simp only [Bool.and_eq_true] at h
    obtain ⟨⟨h1, h2⟩, h3⟩ := h
    unfold okN at h2
    simp only [Bool.and_eq_true, Bool.not_eq_true'] at h2
    split at h3
    · rename_i f
      refine SE.val rfl fun X T Wx g tk fo => ?_
      exact sFn g fo (by rw [g.hfn]; exact of_decide_eq_true h3) (glob_ok g h1) h2.1
    · split at h3
      · rename_i w e
        obtain rfl := vEq_ok h3
        refine SE.val rfl fun X T Wx g tk fo => ?_
        obtain ⟨u, xv, e1, e2, e3⟩ := g.cs _ _ e
        exact sCst (pe_glob (glob_ok g h1) e1 e2 h2.1) e3
      · cases h3
  · cases h
variable (hf : ∀ c e, f c e = true → SE C H0 W0 F k P t c e)
include hf
theorem oBin {op : Bop} {a b : CE} {e : Expr} (h : ckBin f op a b e = true) : SE C H0 W0 F k P t (.bin op a b) e := by
  unfold ckBin at h
  split at h
  · simp only [Bool.and_eq_true, decide_eq_true_eq] at h
    obtain ⟨⟨rfl, h1⟩, h2⟩ := h
    exact SE.val rfl fun X T Wx g tk fo => sBin g.toCg (hf _ _ h1 X T Wx g tk fo).1 (hf _ _ h2 X T Wx g tk fo).1
  · cases h
theorem oNeg {a : CE} {e : Expr} (h : ckNeg f a e = true) : SE C H0 W0 F k P t (.neg a) e := by
  unfold ckNeg at h
  split at h
  · exact SE.val rfl fun X T Wx g tk fo => sNeg (hf _ _ h X T Wx g tk fo).1
  · cases h
theorem oNot {a : CE} {e : Expr} (h : ckNot f a e = true) : SE C H0 W0 F k P t (.not a) e := by
  unfold ckNot at h
  split at h
  · simp only [Bool.and_eq_true] at h
    exact fun X T Wx g tk fo => ⟨sNot (hf _ _ h.1 X T Wx g tk fo).1, fun _ => sNotT ((hf _ _ h.1 X T Wx g tk fo).2 h.2)⟩
  · cases h
theorem oCmp {op : Cop} {a b : CE} {e : Expr} (h : ckCmp f op a b e = true) : SE C H0 W0 F k P t (.cmp op a b) e := by
  unfold ckCmp at h
  split at h
  · simp only [Bool.and_eq_true, decide_eq_true_eq] at h
    obtain ⟨⟨⟨rfl, h1⟩, h2⟩, h3⟩ := h
    exact fun X T Wx g tk fo => ⟨sCmp g.toCg (hf _ _ h1 X T Wx g tk fo).1 (hf _ _ h2 X T Wx g tk fo).1 (marks_of h3), fun _ => sCmpT g.toCg (hf _ _ h1 X T Wx g tk fo).1 (hf _ _ h2 X T Wx g tk fo).1 (marks_of h3)⟩
  · cases h
omit hf in
theorem pfns {X : Cx} (g : CxG C P t k X) (fo : FnsOk C F k X) : ∀ {fs : List Nat} {es : List Expr}, ckFns P t fs es = true → PFns C X fs es
  | [], [], _ => .nil
  | [], _ :: _, h => by cases h
  | _ :: _, [], h => by cases h
  | n :: fs, e :: es, h => by
    unfold ckFns at h
    split at h
    · rename_i e1 _; cases e1
    · rename_i e1 e2
      cases e1
      cases e2
      simp only [Bool.and_eq_true, decide_eq_true_eq] at h
      obtain ⟨⟨⟨h1, h2⟩, h3⟩, h4⟩ := h
      unfold okN at h2
      simp only [Bool.and_eq_true, Bool.not_eq_true'] at h2
      exact .cons (by rw [g.hfn]; exact h3) (glob_ok g h1) h2.1 (pfns g fo h4)
    · cases h
theorem oInV {ng : Bool} {a : CE} {i : Nat} {e : Expr} (h : ckInV t f ng a i e = true) : SE C H0 W0 F k P t (.inV ng a i) e := by
  unfold ckInV at h
  split at h
  · simp only [Bool.and_eq_true, decide_eq_true_eq] at h
    obtain ⟨⟨rfl, h1⟩, h2⟩ := h
    intro X T Wx g tk fo
    obtain ⟨z1, z2, z3, z4⟩ := slot_ok g h2
    exact ⟨sInV g.toCg z1 z2 z3 z4 (hf _ _ h1 X T Wx g tk fo).1, fun _ => sInVT g.toCg z1 z2 z3 z4 (hf _ _ h1 X T Wx g tk fo).1⟩
  · cases h
theorem oChn {o1 o2 : Cop} {a b c : CE} {e : Expr} (h : ckChn f o1 o2 a b c e = true) : SE C H0 W0 F k P t (.chn o1 o2 a b c) e := by
  unfold ckChn at h
  split at h
  · simp only [Bool.and_eq_true, decide_eq_true_eq] at h
    obtain ⟨⟨⟨⟨⟨rfl, rfl⟩, h1⟩, h2⟩, h3⟩, h4⟩ := h
    exact fun X T Wx g tk fo => ⟨sChn g.toCg (hf _ _ h1 X T Wx g tk fo).1 (hf _ _ h2 X T Wx g tk fo).1 (hf _ _ h3 X T Wx g tk fo).1 (lmarks_of h4), fun _ => sChnT g.toCg (hf _ _ h1 X T Wx g tk fo).1 (hf _ _ h2 X T Wx g tk fo).1 (hf _ _ h3 X T Wx g tk fo).1 (lmarks_of h4)⟩
  · cases h
theorem oAnd {a b : CE} {e : Expr} (h : ckAnd f a b e = true) : SE C H0 W0 F k P t (.and a b) e := by
  unfold ckAnd at h
  split at h
  · simp only [Bool.and_eq_true] at h
    obtain ⟨⟨⟨h1, h2⟩, h3⟩, h4⟩ := h
    exact fun X T Wx g tk fo => ⟨sAnd (hf _ _ h1 X T Wx g tk fo).1 (pe_one (hf _ _ h3 X T Wx g tk fo).1), fun _ => sAndT ((hf _ _ h1 X T Wx g tk fo).2 h2) (sAnd1T ((hf _ _ h3 X T Wx g tk fo).2 h4))⟩
  · simp only [Bool.and_eq_true] at h
    obtain ⟨⟨h1, h2⟩, h3⟩ := h
    exact fun X T Wx g tk fo => ⟨sAnd (hf _ _ h1 X T Wx g tk fo).1 (hf _ _ h3 X T Wx g tk fo).1, fun _ => sAndT ((hf _ _ h1 X T Wx g tk fo).2 h2) ((hf _ _ h3 X T Wx g tk fo).2 rfl)⟩
  · cases h
theorem oOr {a b : CE} {e : Expr} (h : ckOr f a b e = true) : SE C H0 W0 F k P t (.or a b) e := by
  unfold ckOr at h
  split at h
  · simp only [Bool.and_eq_true] at h
    obtain ⟨⟨⟨h1, h2⟩, h3⟩, h4⟩ := h
    exact fun X T Wx g tk fo => ⟨sOr (hf _ _ h1 X T Wx g tk fo).1 (pe_one (hf _ _ h3 X T Wx g tk fo).1), fun _ => sOrT ((hf _ _ h1 X T Wx g tk fo).2 h2) (sAnd1T ((hf _ _ h3 X T Wx g tk fo).2 h4))⟩
  · simp only [Bool.and_eq_true] at h
    obtain ⟨⟨h1, h2⟩, h3⟩ := h
    exact fun X T Wx g tk fo => ⟨sOr (hf _ _ h1 X T Wx g tk fo).1 (hf _ _ h3 X T Wx g tk fo).1, fun _ => sOrT ((hf _ _ h1 X T Wx g tk fo).2 h2) ((hf _ _ h3 X T Wx g tk fo).2 rfl)⟩
  · cases h
theorem oInF {ng : Bool} {a : CE} {fs : List Nat} {e : Expr} (h : ckInF P t f ng a fs e = true) : SE C H0 W0 F k P t (.inF ng a fs) e := by
  unfold ckInF at h
  split at h
  · simp only [Bool.and_eq_true, decide_eq_true_eq] at h
    obtain ⟨⟨⟨⟨rfl, h1⟩, h2⟩, h3⟩, h4⟩ := h
    intro X T Wx g tk fo
    obtain ⟨q1, q2⟩ := sInF (T := T) g (by rw [g.hfn]; exact h4) (hf _ _ h1 X T Wx g tk fo).1 (pfns g fo h2) h3
    exact ⟨q1, fun _ => q2⟩
  · cases h
theorem oIte {c a b : CE} {e : Expr} (h : ckIte f c a b e = true) : SE C H0 W0 F k P t (.ite c a b) e := by
  unfold ckIte at h
  split at h
  · simp only [Bool.and_eq_true] at h
    obtain ⟨⟨⟨h1, h2⟩, h3⟩, h4⟩ := h
    exact fun X T Wx g tk fo => ⟨sIf ((hf _ _ h1 X T Wx g tk fo).2 h2) (hf _ _ h3 X T Wx g tk fo).1 (hf _ _ h4 X T Wx g tk fo).1, fun q => by cases q⟩
  · cases h
theorem oA : ∀ {cs : CEs} {es : List Expr}, ckA f cs es = true → SA C H0 W0 F k P t cs es
  | .nil, [], _ => fun X T Wx g tk fo => sNil
  | .cons c cs, e :: es, h => by
    rw [ckA] at h
    simp only [Bool.and_eq_true] at h
    obtain ⟨⟨h1, h2⟩, h3⟩ := h
    exact fun X T Wx g tk fo => sCons (hf _ _ h2 X T Wx g tk fo).1 (oA h3 X T Wx g tk fo) (star_cons h1)
  | .nil, _ :: _, h => by cases h
  | .cons _ _, [], h => by cases h
omit hf in
theorem ckA_star {env : Env} {pos : Pos} : ∀ {cs : CEs} {es : List Expr}, ckA f cs es = true → (backTo pos (starEach es env)).any (·.1) = false
  | .nil, [], _ => rfl
  | .cons c cs, e :: es, h => by
    rw [ckA] at h
    simp only [Bool.and_eq_true] at h
    obtain ⟨⟨h1, h2⟩, h3⟩ := h
    rw [star_cons h1]
    show (false || (backTo pos (starEach es env)).any (·.1)) = false
    rw [ckA_star h3]; rfl
  | .nil, _ :: _, h => by cases h
  | .cons _ _, [], h => by cases h
omit hf in
theorem ckA_head {c : CEs} {e : Expr} {es : List Expr} (h : ckA f c (e :: es) = true) : ∃ a cs, c = .cons a cs ∧ notStar e = true ∧ f a e = true ∧ ckA f cs es = true := by
  cases c with
  | nil => cases h
  | cons a cs =>
    rw [ckA] at h
    simp only [Bool.and_eq_true] at h
    exact ⟨a, cs, rfl, h.1.1, h.1.2, h.2⟩
theorem oTup {cs : CEs} {e : Expr} (h : ckTup f cs e = true) : SE C H0 W0 F k P t (.tup cs) e := by
  unfold ckTup at h
  split at h
  · exact SE.val rfl fun X T Wx g tk fo => sTup (oA hf h X T Wx g tk fo)
  · cases h
theorem oLst {cs : CEs} {e : Expr} (h : ckLst f cs e = true) : SE C H0 W0 F k P t (.lst cs) e := by
  unfold ckLst at h
  split at h
  · exact SE.val rfl fun X T Wx g tk fo => sLst (oA hf h X T Wx g tk fo)
  · cases h
theorem oLstL {cs : CEs} {e : Expr} (h : ckLst f cs e = true) : SE C H0 W0 F k P t (.lstL cs) e := by
  unfold ckLst at h
  split at h
  · exact SE.val rfl fun X T Wx g tk fo => sLstL (oA hf h X T Wx g tk fo)
  · cases h
omit hf in
theorem oDct {kvs : List (Key × Val)} {e : Expr} (h : ckDct kvs e = true) : SE C H0 W0 F k P t (.dct kvs) e := by
  unfold ckDct at h
  split at h
  · obtain rfl : kvs = [] := by simpa using h
    exact SE.val rfl fun X T Wx g tk fo => sDct0
  · split at h
    · simp only [Bool.and_eq_true, beq_iff_eq] at h
      obtain ⟨rfl, rfl⟩ := h
      exact SE.val rfl fun X T Wx g tk fo => sDct1
    · cases h
  · cases h
theorem oCall {n : Nat} {cs : CEs} {e : Expr} (h : ckCall P t f n cs e = true) : SE C H0 W0 F k P t (.call n cs) e := by
  unfold ckCall at h
  split at h
  · simp only [Bool.and_eq_true, decide_eq_true_eq] at h
    obtain ⟨⟨⟨h1, h2⟩, h3⟩, h4⟩ := h
    unfold okN at h2
    simp only [Bool.and_eq_true, Bool.not_eq_true'] at h2
    refine SE.val rfl fun X T Wx g tk fo => ?_
    rename_i x p0 es pos
    cases es with
    | nil =>
      cases cs with
      | nil => exact sCall0 g tk fo (by rw [g.hfn]; exact h3) (glob_ok g h1) h2.1
      | cons => cases h4
    | cons e es =>
      have pa := oA hf h4 X T Wx g tk fo
      obtain ⟨a, cs, rfl, q1, q2, q3⟩ := ckA_head h4
      exact sCall g tk fo (by rw [g.hfn]; exact h3) (glob_ok g h1) h2.1 pa (star_cons q1) (ckA_star q3)
  · cases h
theorem oCallv {a : CE} {cs : CEs} {e : Expr} (h : ckCallv f a cs e = true) : SE C H0 W0 F k P t (.callv a cs) e := by
  unfold ckCallv at h
  split at h
  · simp only [Bool.and_eq_true] at h
    obtain ⟨⟨h1, h2⟩, h3⟩ := h
    refine SE.val rfl fun X T Wx g tk fo => ?_
    have pa := oA hf h3 X T Wx g tk fo
    obtain ⟨c, cs', rfl, q1, q2, q3⟩ := ckA_head h3
    exact sCallv g tk fo h1 (hf _ _ h2 X T Wx g tk fo).1 pa (star_cons q1) (ckA_star q3)
  · cases h
omit hf in
theorem oBltV {b : Bf} {i : Nat} {e : Expr} (h : ckBltV P t b i e = true) : SE C H0 W0 F k P t (.bltV b i) e := by
  unfold ckBltV at h
  split at h
  · simp only [Bool.and_eq_true, decide_eq_true_eq] at h
    obtain ⟨⟨⟨rfl, h1⟩, h2⟩, h3⟩ := h
    refine SE.val rfl fun X T Wx g tk fo => ?_
    obtain ⟨q1, q2, q3, q4⟩ := slot_ok g h3
    exact sBltV g (by simpa using h2) (glob_ok g h1) q1 q2 q3 q4
  · cases h
theorem oBlt {b : Bf} {cs : CEs} {e : Expr} (h : ckBlt P t f b cs e = true) : SE C H0 W0 F k P t (.blt b cs) e := by
  unfold ckBlt at h
  split at h
  · simp only [Bool.and_eq_true, decide_eq_true_eq] at h
    obtain ⟨⟨⟨rfl, h1⟩, h2⟩, h3⟩ := h
    refine SE.val rfl fun X T Wx g tk fo => ?_
    have pa := oA hf h3 X T Wx g tk fo
    obtain ⟨a, cs, rfl, q1, q2, q3⟩ := ckA_head h3
    exact sBlt g (by simpa using h2) (glob_ok g h1) pa (star_cons q1) (ckA_star q3)
  · cases h
omit hf in
theorem oIsiV {i : Nat} {n : String} {e : Expr} (h : ckIsiV P t i n e = true) : SE C H0 W0 F k P t (.isiV i n) e := by
  unfold ckIsiV at h
  split at h
  · simp only [Bool.and_eq_true, decide_eq_true_eq] at h
    obtain ⟨⟨⟨⟨⟨⟨⟨rfl, h1⟩, h2⟩, rfl⟩, h3⟩, h4⟩, h5⟩, h6⟩ := h
    refine SE.val rfl fun X T Wx g tk fo => ?_
    obtain ⟨q1, q2, q3, q4⟩ := slot_ok g h6
    exact sIsiV g h5 (by simpa using h2) (by simpa using h4) (glob_ok g h1) (glob_ok g h3) q1 q2 q3 q4
  · cases h
theorem oIsi {a : CE} {n : String} {e : Expr} (h : ckIsi P t f a n e = true) : SE C H0 W0 F k P t (.isi a n) e := by
  unfold ckIsi at h
  split at h
  · simp only [Bool.and_eq_true, decide_eq_true_eq] at h
    obtain ⟨⟨⟨⟨⟨⟨⟨⟨rfl, h1⟩, h2⟩, rfl⟩, h3⟩, h4⟩, h5⟩, h6⟩, h7⟩ := h
    refine SE.val rfl fun X T Wx g tk fo => ?_
    exact sIsi g h5 (by simpa using h2) (by simpa using h4) (glob_ok g h1) (glob_ok g h3) (hf _ _ h7 X T Wx g tk fo).1 (star_cons h6)
  · cases h
theorem oIdxV {i : Nat} {b : CE} {e : Expr} (h : ckIdxV t f i b e = true) : SE C H0 W0 F k P t (.idxV i b) e := by
  unfold ckIdxV at h
  split at h
  · simp only [Bool.and_eq_true] at h
    obtain ⟨⟨h1, h2⟩, h3⟩ := h
    refine SE.val rfl fun X T Wx g tk fo => ?_
    obtain ⟨q1, q2, q3, q4⟩ := slot_ok g h1
    exact sIdxV g.toCg q1 q2 q3 q4 (hf _ _ h2 X T Wx g tk fo).1 (plainIx_of h3)
  · cases h
theorem oIdx {a b : CE} {e : Expr} (h : ckIdx f a b e = true) : SE C H0 W0 F k P t (.idx a b) e := by
  unfold ckIdx at h
  split at h
  · simp only [Bool.and_eq_true] at h
    obtain ⟨⟨h1, h2⟩, h3⟩ := h
    refine SE.val rfl fun X T Wx g tk fo => ?_
    exact sIdx g.toCg (hf _ _ h1 X T Wx g tk fo).1 (hf _ _ h2 X T Wx g tk fo).1 (plainIx_of h3)
  · cases h
theorem oO {c : CO} {e : Option Expr} (h : ckO f c e = true) {X : Cx} {T : Hid} {Wx : WX} (g : CxG C P t k X) (tk : Takes X Wx) (fo : FnsOk C F k X) : PO X e (tO C H0 W0 T Wx (evO F c)) := by
  unfold ckO at h
  split at h
  · exact sNo
  · exact sSo (hf _ _ h X T Wx g tk fo).1
  · cases h
theorem oSlc {a : CE} {lo hi : CO} {e : Expr} (h : ckSlc f a lo hi e = true) : SE C H0 W0 F k P t (.slc a lo hi) e := by
  unfold ckSlc at h
  split at h
  · simp only [Bool.and_eq_true] at h
    obtain ⟨⟨h1, h2⟩, h3⟩ := h
    refine SE.val rfl fun X T Wx g tk fo => ?_
    exact sSlc g.toCg (hf _ _ h1 X T Wx g tk fo).1 (oO hf h2 g tk fo) (oO hf h3 g tk fo)
  · cases h
theorem oRev {a : CE} {e : Expr} (h : ckRev f a e = true) : SE C H0 W0 F k P t (.rev a) e := by
  unfold ckRev at h
  split at h
  · exact SE.val rfl fun X T Wx g tk fo => sRev g.toCg (hf _ _ h X T Wx g tk fo).1
  · cases h
omit hf in
theorem ckA_all {env : Env} {pos : Pos} : ∀ {cs : CEs} {es : List Expr}, ckA f cs es = true → (backTo pos (starEach es env)).all (fun x => !x.1) = true
  | .nil, [], _ => rfl
  | .cons c cs, e :: es, h => by
    rw [ckA] at h
    simp only [Bool.and_eq_true] at h
    obtain ⟨⟨h1, h2⟩, h3⟩ := h
    rw [star_cons h1]
    show (true && (backTo pos (starEach es env)).all (fun x => !x.1)) = true
    rw [ckA_all h3]; rfl
  | .nil, _ :: _, h => by cases h
  | .cons _ _, [], h => by cases h
theorem oMth {m : Mt} {a : CE} {cs : CEs} {e : Expr} (h : ckMth f m a cs e = true) : SE C H0 W0 F k P t (.mth m a cs) e := by
  unfold ckMth at h
  split at h
  · simp only [Bool.and_eq_true, decide_eq_true_eq] at h
    obtain ⟨⟨⟨⟨⟨rfl, h1⟩, h2⟩, h3⟩, h4⟩, h5⟩ := h
    refine SE.val rfl fun X T Wx g tk fo => ?_
    have pa := oA hf h3 X T Wx g tk fo
    have al := fun pos => ckA_all (env := X.env) (pos := pos) h3
    obtain ⟨a, cs, rfl, q1, q2, q3⟩ := ckA_head h3
    refine sMth g.toCg (hf _ _ h1 X T Wx g tk fo).1 pa (base_of h2 _) ?_ h4 (star_cons q1) (ckA_star q3)
    rw [al]
    simp only [Bool.true_and, Bool.and_eq_true, decide_eq_true_eq]
    exact ⟨rfl, by simpa using h5⟩
  · cases h
theorem oUpp {a : CE} {e : Expr} (h : ckUpp f a e = true) : SE C H0 W0 F k P t (.upp a) e := by
  unfold ckUpp at h
  split at h
  · simp only [Bool.and_eq_true, decide_eq_true_eq] at h
    obtain ⟨⟨⟨rfl, h1⟩, h2⟩, h4⟩ := h
    exact SE.val rfl fun X T Wx g tk fo => sUpp (hf _ _ h1 X T Wx g tk fo).1 (base_of h2 _) h4
  · cases h
theorem oMthV {m : Mt} {i : Nat} {cs : CEs} {e : Expr} (h : ckMthV t f m i cs e = true) : SE C H0 W0 F k P t (.mthV m i cs) e := by
  unfold ckMthV at h
  split at h
  · simp only [Bool.and_eq_true, decide_eq_true_eq] at h
    obtain ⟨⟨⟨⟨rfl, h1⟩, h3⟩, h4⟩, h5⟩ := h
    refine SE.val rfl fun X T Wx g tk fo => ?_
    have pa := oA hf h3 X T Wx g tk fo
    have al := fun pos => ckA_all (env := X.env) (pos := pos) h3
    obtain ⟨a, cs, rfl, q1, q2, q3⟩ := ckA_head h3
    obtain ⟨z1, z2, z3, z4⟩ := slot_ok g h1
    refine sMthV g.toCg z1 z2 z3 z4 pa ?_ h4 (star_cons q1) (ckA_star q3)
    rw [al]
    simp only [Bool.true_and, Bool.and_eq_true, decide_eq_true_eq]
    exact ⟨rfl, by simpa using h5⟩
  · cases h
theorem oApp {i : Nat} {a : CE} {e : Expr} (h : ckApp t f i a e = true) : SE C H0 W0 F k P t (.app i a) e := by
  unfold ckApp at h
  split at h
  · simp only [Bool.and_eq_true, decide_eq_true_eq] at h
    obtain ⟨⟨⟨⟨rfl, h1⟩, h2⟩, h3⟩, h4⟩ := h
    refine SE.val rfl fun X T Wx g tk fo => ?_
    obtain ⟨q1, q2, q3, q4⟩ := slot_ok g h1
    exact sApp q1 q2 q3 q4 (hf _ _ h3 X T Wx g tk fo).1 (star_cons h2) h4
  · cases h
theorem oPopAt {i : Nat} {a : CE} {e : Expr} (h : ckPopAt t f i a e = true) : SE C H0 W0 F k P t (.popAt i a) e := by
  unfold ckPopAt at h
  split at h
  · simp only [Bool.and_eq_true, decide_eq_true_eq] at h
    obtain ⟨⟨⟨⟨rfl, h1⟩, h2⟩, h3⟩, h4⟩ := h
    refine SE.val rfl fun X T Wx g tk fo => ?_
    obtain ⟨q1, q2, q3, q4⟩ := slot_ok g h1
    exact sPopAt q1 q2 q3 q4 (hf _ _ h3 X T Wx g tk fo).1 (star_cons h2) h4
  · cases h
theorem oIns {i : Nat} {k1 a : CE} {e : Expr} (h : ckIns t f i k1 a e = true) : SE C H0 W0 F k P t (.ins i k1 a) e := by
  unfold ckIns at h
  split at h
  · simp only [Bool.and_eq_true, decide_eq_true_eq] at h
    obtain ⟨⟨⟨⟨⟨⟨rfl, h1⟩, h2⟩, h3⟩, h4⟩, h5⟩, h6⟩ := h
    refine SE.val rfl fun X T Wx g tk fo => ?_
    obtain ⟨q1, q2, q3, q4⟩ := slot_ok g h1
    exact sIns q1 q2 q3 q4 (hf _ _ h4 X T Wx g tk fo).1 (hf _ _ h5 X T Wx g tk fo).1 (star_cons h2) (star_cons h3) h6
  · cases h
theorem oRmv {i : Nat} {a : CE} {e : Expr} (h : ckRmv t f i a e = true) : SE C H0 W0 F k P t (.rmv i a) e := by
  unfold ckRmv at h
  split at h
  · simp only [Bool.and_eq_true, decide_eq_true_eq] at h
    obtain ⟨⟨⟨⟨rfl, h1⟩, h2⟩, h3⟩, h4⟩ := h
    refine SE.val rfl fun X T Wx g tk fo => ?_
    obtain ⟨q1, q2, q3, q4⟩ := slot_ok g h1
    exact sRmv g.toCg q1 q2 q3 q4 (hf _ _ h3 X T Wx g tk fo).1 (star_cons h2) h4
  · cases h
theorem oPopD {i : Nat} {a : CE} {e : Expr} (h : ckPopD t f i a e = true) : SE C H0 W0 F k P t (.popD i a) e := by
  unfold ckPopD at h
  split at h
  · simp only [Bool.and_eq_true, decide_eq_true_eq] at h
    obtain ⟨⟨⟨⟨rfl, h1⟩, h2⟩, h3⟩, h4⟩ := h
    refine SE.val rfl fun X T Wx g tk fo => ?_
    obtain ⟨q1, q2, q3, q4⟩ := slot_ok g h1
    exact sPopD g.toCg q1 q2 q3 q4 (hf _ _ h3 X T Wx g tk fo).1 (star_cons h2) h4
  · cases h
theorem oDctE {k1 a : CE} {e : Expr} (h : ckDctE f k1 a e = true) : SE C H0 W0 F k P t (.dctE k1 a) e := by
  unfold ckDctE at h
  split at h
  · simp only [Bool.and_eq_true] at h
    refine SE.val rfl fun X T Wx g tk fo => ?_
    exact sDctE (fun T => (hf _ _ h.1 X T Wx g tk fo).1) (fun T => (hf _ _ h.2 X T Wx g tk fo).1)
  · cases h
omit hf in
theorem keys_all : ∀ {ks : List Int} {es : List (Option Expr)}, ckKeys ks es = true → es.all (·.isSome) = true ∧ es.length = ks.length
  | [], [], _ => ⟨rfl, rfl⟩
  | [], _ :: _, h => by cases h
  | _ :: _, [], h => by cases h
  | k :: ks, none :: es, h => by cases h
  | k :: ks, some e :: es, h => by
    unfold ckKeys at h
    split at h
    · cases ‹_ :: _ = []›
    · rename_i e1 e2
      cases e1
      cases e2
      rw [Bool.and_eq_true] at h
      obtain ⟨a, b⟩ := keys_all h.2
      exact ⟨by rw [List.all_cons, a]; rfl, by rw [List.length_cons, List.length_cons, b]⟩
    · cases h
theorem ppsM {X : Cx} {Wx : WX} {pos : Pos} (g : CxG C P t k X) (tk : Takes X Wx) (fo : FnsOk C F k X) : ∀ {ks : List Int} {keys : List (Option Expr)} {cs : CEs} {values : List Expr}, ckKeys ks keys = true → ckA f cs values = true → fitM ks cs = true → PPs X pos keys values (trsM C H0 W0 Wx F ks cs) ∧ keys.length = values.length
  | [], [], .nil, [], _, _, _ => ⟨pps_nil, rfl⟩
  | [], _ :: _, _, _, h, _, _ => by cases h
  | _ :: _, [], _, _, h, _, _ => by cases h
  | [], [], .cons _ _, _, _, _, h => by cases h
  | [], [], .nil, _ :: _, _, h, _ => by cases h
  | _ :: _, none :: _, _, _, h, _, _ => by cases h
  | _ :: _, _ :: _, .nil, _, _, _, h => by cases h
  | _ :: _, _ :: _, .cons _ _, [], _, h, _ => by cases h
  | k0 :: ks, some ke :: keys, .cons c cs, v :: values, h1, h2, h3 => by
    unfold ckKeys at h1
    split at h1
    · cases ‹_ :: _ = []›
    · rename_i e1 e2
      cases e1
      cases e2
      rw [Bool.and_eq_true, beq_iff_eq] at h1
      obtain ⟨rfl, h1⟩ := h1
      obtain ⟨a, cs', hc, q1, q2, q3⟩ := ckA_head h2
      cases hc
      obtain ⟨p1, p2⟩ := ppsM g tk fo h1 q3 h3
      exact ⟨pps_cons pe_int (peEx fun T => peV (hf _ _ q2 X T Wx g tk fo).1) p1, by rw [List.length_cons, List.length_cons, p2]⟩
    · cases h1
theorem oDctM {ks : List Int} {cs : CEs} {e : Expr} (h : ckDctM f ks cs e = true) : SE C H0 W0 F k P t (.dctM ks cs) e := by
  unfold ckDctM at h
  split at h
  · simp only [Bool.and_eq_true, decide_eq_true_eq] at h
    obtain ⟨⟨⟨⟨⟨h1, h2⟩, h3⟩, h4⟩, h5⟩, h6⟩ := h
    refine SE.val rfl fun X T Wx g tk fo => ?_
    obtain ⟨a, b⟩ := keys_all h1
    obtain ⟨p1, p2⟩ := ppsM hf (H0 := H0) (W0 := W0) g tk fo h1 h2 h3
    exact sDctM p1 a p2 (fun z => h4 (List.length_eq_zero_iff.mp (by rw [← b, z]; rfl))) (by rw [b]; exact h5) h5 h6 h3
  · cases h
theorem oLenSet {a : CE} {e : Expr} (h : ckSet2 P t f "len" a e = true) : SE C H0 W0 F k P t (.lenSet a) e := by
  unfold ckSet2 at h
  split at h
  · simp only [Bool.and_eq_true, decide_eq_true_eq] at h
    obtain ⟨⟨⟨⟨⟨⟨⟨rfl, h1⟩, h2⟩, rfl⟩, h3⟩, h4⟩, h5⟩, h6⟩ := h
    refine SE.val rfl fun X T Wx g tk fo => ?_
    exact sLenSet g (by simpa using h2) (glob_ok g h1) (by simpa using h4) (glob_ok g h3) (hf _ _ h6 X T Wx g tk fo).1 (star_cons h5)
  · cases h
theorem oSrtSet {a : CE} {e : Expr} (h : ckSet2 P t f "sorted" a e = true) : SE C H0 W0 F k P t (.srtSet a) e := by
  unfold ckSet2 at h
  split at h
  · simp only [Bool.and_eq_true, decide_eq_true_eq] at h
    obtain ⟨⟨⟨⟨⟨⟨⟨rfl, h1⟩, h2⟩, rfl⟩, h3⟩, h4⟩, h5⟩, h6⟩ := h
    refine SE.val rfl fun X T Wx g tk fo => ?_
    exact sSrtSet g (by simpa using h2) (glob_ok g h1) (by simpa using h4) (glob_ok g h3) (hf _ _ h6 X T Wx g tk fo).1 (star_cons h5)
  · cases h
omit hf in
theorem oPop {i : Nat} {e : Expr} (h : ckPop t i e = true) : SE C H0 W0 F k P t (.pop i) e := by
  unfold ckPop at h
  split at h
  · simp only [Bool.and_eq_true, decide_eq_true_eq] at h
    obtain ⟨⟨rfl, h1⟩, h4⟩ := h
    refine SE.val rfl fun X T Wx g tk fo => ?_
    obtain ⟨q1, q2, q3, q4⟩ := slot_ok g h1
    exact sPop q1 q2 q3 q4 h4
  · cases h
theorem oRng {tp : Bool} {lo hi : CO} {e : Expr} (h : ckRng P t f tp lo hi e = true) : SE C H0 W0 F k P t (.rng tp lo hi) e := by
  unfold ckRng at h
  split at h
  · simp only [Bool.and_eq_true, decide_eq_true_eq] at h
    obtain ⟨⟨⟨⟨⟨⟨rfl, h1⟩, h2⟩, rfl⟩, h3⟩, h4⟩, h5⟩ := h
    refine SE.val rfl fun X T Wx g tk fo => ?_
    split at h5
    · simp only [Bool.and_eq_true] at h5
      exact sRng1 g (by simpa using h4) (glob_ok g h3) (by simpa using h2) (glob_ok g h1) (hf _ _ h5.2 X T Wx g tk fo).1 (star_cons h5.1)
    · simp only [Bool.and_eq_true] at h5
      obtain ⟨⟨⟨q1, q2⟩, q3⟩, q4⟩ := h5
      exact sRng2 g (by simpa using h4) (glob_ok g h3) (by simpa using h2) (glob_ok g h1) (hf _ _ q3 X T Wx g tk fo).1 (hf _ _ q4 X T Wx g tk fo).1 (star_cons q1) (star_cons q2)
    · cases h5
  · cases h
/-! ### targets, walks, comprehensions -/
def gOf (K : PySem.W.Frag) (tg : List Nat) : TG := match tg with
  | [i] => gName i
  | is => gTup K is.length (gNames is)
omit hf in
theorem tgt_of {K : PySem.W.Frag} (tg : List Nat) : Tgt K tg (gOf K tg) := by
  unfold gOf
  split
  · exact .one _
  · rename_i h
    refine .many _ fun e => ?_
    match tg, e with
    | [i], _ => exact h i rfl
omit hf in
theorem pgs_of {X : Cx} (hN : X.N.Nodup) : ∀ {es : List Expr} {xs : List Str} {tg : List Nat}, nmsOf es = some xs → xs.length = tg.length → (∀ p ∈ xs.zip tg, X.N[p.2]? = some p.1 ∧ Loc X.env.scope p.1 ∧ (X.fn p.1 = true ∨ X.env.scope.names.lookup p.1 = some .local)) → PGs X es (gNames tg) ∧ (assignEach es X.env).length = tg.length ∧ (assignEach es X.env).findIdx? (·.1) = none
  | [], xs, tg, h, hl, _ => by
    cases h
    obtain rfl : tg = [] := List.length_eq_zero_iff.mp hl.symm
    exact ⟨pgs_nil, rfl, rfl⟩
  | .Name x p :: r, xs, tg, h, hl, hq => by
    rw [nmsOf] at h
    cases e : nmsOf r with
    | none => rw [e] at h; cases h
    | some ys =>
      rw [e] at h
      cases h
      cases tg with
      | nil => simp at hl
      | cons i is =>
        have h0 := hq (x, i) List.mem_cons_self
        obtain ⟨g1, g2, g3⟩ := pgs_of hN e (by simpa using hl) fun p hp => hq p (List.mem_cons_of_mem _ hp)
        refine ⟨pgs_cons (pg_name hN h0.1 h0.2.1 h0.2.2) g1 rfl, ?_, ?_⟩
        · show (assignEach r X.env).length + 1 = _
          rw [g2]; rfl
        · show List.findIdx? (·.1) ((false, assign (.Name x p) X.env) :: assignEach r X.env) = none
          rw [List.findIdx?_cons, g3]; rfl
omit hf in
theorem pg_of {X : Cx} (hN : X.N.Nodup) (hc : X.calm = true) {K : PySem.W.Frag} (hK : X.K = K) {tgE : Expr} {xs : List Str} {tg : List Nat} (h : tgNms tg tgE = some xs) (hl : xs.length = tg.length) (hq : ∀ p ∈ xs.zip tg, X.N[p.2]? = some p.1 ∧ Loc X.env.scope p.1 ∧ (X.fn p.1 = true ∨ X.env.scope.names.lookup p.1 = some .local)) : PG X tgE (gOf K tg) := by
  subst hK
  unfold tgNms at h
  split at h
  · split at h
    · cases h
      rename_i e
      match tg, e, hq with
      | [i], _, hq =>
        have h0 := hq _ List.mem_cons_self
        exact pg_name hN h0.1 h0.2.1 h0.2.2
    · cases h
  · split at h
    · rename_i e
      obtain ⟨g1, g2, g3⟩ := pgs_of hN h hl hq
      have : gOf X.K tg = gTup X.K tg.length (gNames tg) := by
        unfold gOf
        split
        · exact absurd rfl e
        · rfl
      rw [this]
      exact pg_tup hc g1 g2 g3
    · cases h
  · cases h
omit hf in
theorem gOf_many {K : PySem.W.Frag} {tg : List Nat} (hn : tg.length ≠ 1) : gOf K tg = gTup K tg.length (gNames tg) := by
  unfold gOf
  split
  · exact absurd rfl hn
  · rfl
omit hf in
theorem tup_of {tg : List Nat} {tgE : Expr} (hx : (tgNms tg tgE).isSome = true) (hn : tg.length ≠ 1) : ∃ es kk p, tgE = .Tuple es kk p := by
  unfold tgNms at hx
  split at hx
  · rw [if_neg hn] at hx; cases hx
  · exact ⟨_, _, _, rfl⟩
  · cases hx
theorem oI {tg : List Nat} {c : CI} {tgE e : Expr} (hx : (tgNms tg tgE).isSome = true) (h : ckI P t f tg c e = true) {X : Cx} {T : Hid} {Wx : WX} (g : CxG C P t k X) (tk : Takes X Wx) (fo : FnsOk C F k X) : PI X tgE e (tIt C H0 W0 T Wx (gOf C.K tg) tg (evI F c)) := by
  unfold ckI at h
  split at h
  · exact sItSeq g.toCg (tgt_of tg) (hf _ _ h X T Wx g tk fo).1
  · simp only [Bool.and_eq_true, decide_eq_true_eq] at h
    obtain ⟨⟨⟨⟨⟨h1, rfl⟩, h2⟩, h3⟩, h4⟩, h5⟩ := h
    obtain ⟨es, kk, p, rfl⟩ := tup_of hx h1
    rw [gOf_many h1]
    exact sItEnum g h1 (by simpa using h3) (glob_ok g h2) (hf _ _ h5 X T Wx g tk fo).1 (star_cons h4)
  · simp only [Bool.and_eq_true, decide_eq_true_eq] at h
    obtain ⟨⟨⟨⟨⟨⟨⟨h1, rfl⟩, h2⟩, h3⟩, h4⟩, h5⟩, h6⟩, h7⟩ := h
    obtain ⟨es, kk, p, rfl⟩ := tup_of hx h1
    rw [gOf_many h1]
    exact sItZip g h1 (by simpa using h3) (glob_ok g h2) (hf _ _ h6 X T Wx g tk fo).1 (hf _ _ h7 X T Wx g tk fo).1 (star_cons h4) (star_cons h5)
  · simp only [Bool.and_eq_true, decide_eq_true_eq] at h
    obtain ⟨⟨⟨⟨⟨h1, rfl⟩, h2⟩, h3⟩, h4⟩, h5⟩ := h
    match tg, h1 with
    | [i], _ => exact sItRng1 g (by simpa using h3) (glob_ok g h2) (hf _ _ h5 X T Wx g tk fo).1 (star_cons h4)
  · simp only [Bool.and_eq_true, decide_eq_true_eq] at h
    obtain ⟨⟨⟨⟨⟨⟨⟨h1, rfl⟩, h2⟩, h3⟩, h4⟩, h5⟩, h6⟩, h7⟩ := h
    match tg, h1 with
    | [i], _ => exact sItRng2 g (by simpa using h3) (glob_ok g h2) (hf _ _ h6 X T Wx g tk fo).1 (hf _ _ h7 X T Wx g tk fo).1 (by rw [star_cons h4, star_cons h5]; rfl) (star_cons h5)
  · cases h
end
section
variable {C : Cn} {H0 : Hp} {W0 : Gh} {F : FT} {k : Nat} {P : Pr} {t : Ct} {X : Cx}
theorem CxG.blk (g : CxG C P t k X) (s : Shared) (H : Hp) (scope : Scope) (Ca : Addr) (cl : List (Str × Addr)) (fp : List Addr) : CxG C P (blkT t scope) k (blkE X s H scope Ca cl fp) where
  hK := g.hK
  hm := g.hm
  gd := g.gd
  sm := g.sm
  un := g.un
  hfn := g.hfn
  hex := g.hex
  hN := g.hN
  nd := g.nd
  hsc := by
    show relS scope X.env.scope = relS scope t.sc
    rw [g.hsc]
  calm := g.calm
  room := g.room
  fn h := by cases h
  bl := g.bl
  cs := g.cs
  po := PassesOwn.never
  fo := g.fo
theorem blk_ok (g : CxG C P t k X) {scope : Scope} {own : List (Str × Nat)} (h : blkb t scope own = true) : BlkOk X.N X.env.scope scope own := by
  unfold blkb at h
  simp only [Bool.and_eq_true, decide_eq_true_eq, List.all_eq_true, Bool.or_eq_true, Bool.not_eq_true', decide_eq_false_iff_not] at h
  obtain ⟨⟨⟨⟨h1, h2⟩, h3⟩, h4⟩, h5⟩ := h
  rw [g.hN, g.hsc]
  refine ⟨h1, h2, h3, fun y hy e => ?_, fun y hy e => ?_⟩
  · rcases h4 y hy with (q | q) | q
    · exact absurd e q
    · exact .inl q
    · exact .inr q
  · rcases h5 y hy with (q | q) | q
    · simp only [Bool.or_eq_false_iff, decide_eq_false_iff_not] at q
      rcases e with e | e
      · exact absurd e q.1
      · exact absurd e q.2
    · exact .inl (by simpa using q)
    · exact .inr (by simpa using q)
theorem store_ok' (g : CxG C P t k X) {cells : Str → Bool} (hc : ∀ x, cells x = true → X.fn x = true) {i : Nat} {x : Str} (h : storeb t cells i x = true) : X.N[i]? = some x ∧ Loc X.env.scope x ∧ (X.fn x = true ∨ X.env.scope.names.lookup x = some .local) := by
  unfold storeb at h
  simp only [Bool.and_eq_true, decide_eq_true_eq, Bool.or_eq_true] at h
  obtain ⟨⟨h1, h2⟩, h3⟩ := h
  rw [g.hN, g.hsc]
  exact ⟨h1, loc_ok h2, h3.imp (hc x) id⟩
theorem oCond {gg : CE → Expr → Bool} (hg : ∀ c e, gg c e = true → SE C H0 W0 F k P t c e) {c : CO} {es : List Expr} (h : ckCond gg c es = true) {T : Hid} {Wx : WX} (g : CxG C P t k X) (tk : Takes X Wx) (fo : FnsOk C F k X) : PTs X es (tT C H0 W0 T Wx (evC F c)) := by
  unfold ckCond at h
  split at h
  · refine ⟨fun pins s sg H Q I hw => pts_nil.run pins s sg H Q I ?_⟩
    obtain ⟨W, r, s, o, p⟩ := hw
    rw [evC] at p
    exact p W true H (Gh.le.refl _) o rfl
  · simp only [Bool.and_eq_true] at h
    refine ⟨fun pins s sg H Q I hw => (pts_one ((hg _ _ h.1 X T Wx g tk fo).2 h.2)).run pins s sg H Q I ?_⟩
    obtain ⟨W, r, s, o, p⟩ := hw
    rw [evC] at p
    exact ⟨W, r, s, o, p⟩
  · cases h
/-- the parts of a comprehension -/
structure LcP (C : Cn) (H0 : Hp) (W0 : Gh) (T : Hid) (Wx : WX) (F : FT) (X : Cx) (tgE iter elt : Expr) (ifs : List Expr) (scope : Scope) (ci : CI) (tg : List Nat) (cond : CO) (ce : CE) : Prop where
  ex : ∃ own, BlkOk X.N X.env.scope scope own ∧ own.map (·.2) = tg
  hi : PI X tgE iter (tIt C H0 W0 T Wx (gOf C.K tg) tg (evI F ci))
  hg : ∀ (s : Shared) (H : Hp) (Ca : Addr) (cl : List (Str × Addr)) (fp : List Addr), PG (blkE X s H scope Ca cl fp) tgE (gOf C.K tg)
  ht : ∀ (T' : Hid) (s : Shared) (H : Hp) (Ca : Addr) (cl : List (Str × Addr)) (fp : List Addr), PTs (blkE X s H scope Ca cl fp) ifs (tT C H0 W0 T' (fun _ _ _ _ => False) (evC F cond))
  he : ∀ (T' : Hid) (s : Shared) (H : Hp) (Ca : Addr) (cl : List (Str × Addr)) (fp : List Addr), PE (blkE X s H scope Ca cl fp) elt (tR C H0 W0 T' (fun _ _ _ _ => False) (evE F ce))
  hs : ∀ x, foldedSetIterable iter X.env x = pure x
theorem lcParts {f : CE → Expr → Bool} {gg : Ct → CE → Expr → Bool} (hf : ∀ c e, f c e = true → SE C H0 W0 F k P t c e) (hg : ∀ t c e, gg t c e = true → SE C H0 W0 F k P t c e) {ci : CI} {tg : List Nat} {cond : CO} {ce : CE} {tgE iter elt : Expr} {ifs : List Expr} {scope : Scope} {pos : Pos}
    (h : ckLc P t f gg ci tg cond ce (.ListComp elt [⟨tgE, iter, ifs, 0⟩] scope pos) = true) {T : Hid} {Wx : WX} (g : CxG C P t k X) (tk : Takes X Wx) (fo : FnsOk C F k X) : LcP C H0 W0 T Wx F X tgE iter elt ifs scope ci tg cond ce := by
  unfold ckLc at h
  simp only [Bool.and_eq_true] at h
  obtain ⟨⟨⟨⟨h1, h2⟩, h3⟩, h4⟩, h5⟩ := h
  split at h1
  · rename_i xs e
    simp only [Bool.and_eq_true, decide_eq_true_eq, List.all_eq_true] at h1
    obtain ⟨⟨q1, q2⟩, q3⟩ := h1
    refine ⟨⟨xs.zip tg, blk_ok g q2, ?_⟩, oI hf (by rw [e]; rfl) h2 g tk fo, fun s H Ca cl fp => ?_, fun T' s H Ca cl fp => ?_, fun T' s H Ca cl fp => ?_, fun x => folded_of h3 x⟩
    · rw [List.map_snd_zip]; omega
    · have gb := g.blk s H scope Ca cl fp
      exact pg_of gb.nd gb.calm gb.hK e q1 fun p hp => store_ok' gb (fun x q => q) (q3 p hp)
    · exact oCond (hg _) h4 (g.blk s H scope Ca cl fp) takes0 fo
    · exact (hg _ _ _ h5 _ T' _ (g.blk s H scope Ca cl fp) takes0 fo).1
  · cases h1
theorem oLc {f : CE → Expr → Bool} {gg : Ct → CE → Expr → Bool} (hf : ∀ c e, f c e = true → SE C H0 W0 F k P t c e) (hg : ∀ t c e, gg t c e = true → SE C H0 W0 F k P t c e) {ci : CI} {tg : List Nat} {cond : CO} {ce : CE} {e : Expr}
    (h : ckLc P t f gg ci tg cond ce e = true) : SE C H0 W0 F k P t (.lc ci tg cond ce) e := by
  have h0 := h
  unfold ckLc at h
  split at h
  · refine SE.val rfl fun X T Wx g tk fo => ?_
    obtain ⟨⟨own, b1, b2⟩, hi, hg, ht, he, hs⟩ := lcParts hf hg h0 (T := T) g tk fo
    exact sLc g.calm g.nd b1 b2 hi hg ht he hs
  · cases h
/-- what is checked is true -/
theorem ckE_ok : ∀ (n : Nat) (t : Ct) (c : CE) (e : Expr), ckE P n t c e = true → SE C H0 W0 F k P t c e
  | 0, _, _, _, h => by cases h
  | n + 1, t, c, e, h => by
    have hf := ckE_ok n t
    cases c with
    | var i => exact oVar h
    | cst v => exact oCst h
    | bin op a b => exact oBin hf h
    | neg a => exact oNeg hf h
    | cmp op a b => exact oCmp hf h
    | inV ng a i => exact oInV hf h
    | inF ng a fs => exact oInF hf h
    | chn o1 o2 a b c => exact oChn hf h
    | and a b => exact oAnd hf h
    | or a b => exact oOr hf h
    | not a => exact oNot hf h
    | ite c a b => exact oIte hf h
    | tup cs => exact oTup hf h
    | lst cs => exact oLst hf h
    | lstL cs => exact oLstL hf h
    | dct kvs => exact oDct h
    | call m cs => exact oCall hf h
    | callv a cs => exact oCallv hf h
    | bltV b i => exact oBltV h
    | blt b cs => exact oBlt hf h
    | isiV i ty => exact oIsiV h
    | isi a ty => exact oIsi hf h
    | idxV i b => exact oIdxV hf h
    | idx a b => exact oIdx hf h
    | slc a lo hi => exact oSlc hf h
    | rev a => exact oRev hf h
    | mth m a cs => exact oMth hf h
    | mthV m i cs => exact oMthV hf h
    | upp a => exact oUpp hf h
    | app i a => exact oApp hf h
    | popAt i a => exact oPopAt hf h
    | ins i k1 a => exact oIns hf h
    | rmv i a => exact oRmv hf h
    | popD i a => exact oPopD hf h
    | dctE k1 a => exact oDctE hf h
    | dctM ks cs => exact oDctM hf h
    | lenSet a => exact oLenSet hf h
    | srtSet a => exact oSrtSet hf h
    | pop i => exact oPop h
    | rng tp lo hi => exact oRng hf h
    | lc it tg cond elt => exact oLc hf (ckE_ok n) h
    | nev => exact fun X T Wx g tk fo => ⟨sNev, fun _ => sNevT⟩
end
end Gz
/-! Statements: the checks, and that they are true. -/
namespace Gz
open PySem PySem.Spec PyProof.Rows L2
def gTgs (K : PySem.W.Frag) : List (List Nat) → TGs
  | [] => gNil
  | tg :: tgs => gCons (gOf K tg) (gTgs K tgs)
theorem bindN_len : ∀ {tgs : List (List Nat)} {xs : List Val} {r r' : Rho}, bindN tgs xs r = some r' → xs.length = tgs.length
  | [], [], _, _, _ => rfl
  | [], _ :: _, _, _, h => by cases h
  | _ :: _, [], _, _, h => by cases h
  | tg :: tgs, x :: xs, r, r', h => by
    rw [bindN] at h
    cases e : bindT tg x r with
    | none => rw [e] at h; cases h
    | some r1 =>
      rw [e] at h
      rw [List.length_cons, List.length_cons, bindN_len h]
/-- no exchange of stores: other than two or three names, or names that are no plain locals, or constants alone -/
def swNo (sc : Scope) (ts vs : List Expr) : Bool := !(ts.length == 2 || ts.length == 3) || (vs.length != ts.length) ||
  ((ts.filterMap fun
    | .Name id pos => if sc.names.lookup id == some .local && pos.line == (ts.head?.map (·.pos.line)).getD 0 then some id else none
    | _ => none).length != ts.length)
theorem swNo_ok {ts vs : List Expr} {kt k2 : Nat} {pt pt2 : Pos} {env : Env} (hv : (vs.any fun | .Starred .. => true | _ => false) = false) (hk : env.scope.kind = .function) (h : swNo env.scope ts vs = true) : swappedStores [.Tuple ts kt pt] (.Tuple vs k2 pt2) env = pure none := by
  have hb : env.blockKind = .function := by unfold Env.blockKind; rw [hk]; rfl
  unfold swNo at h
  unfold swappedStores
  simp only [Bool.or_eq_true] at h
  rcases h with (h | h) | h
  · simp only [h, Bool.true_or, if_true]
  · simp only [h, Bool.or_true, Bool.true_or, if_true]
  · dsimp only
    split
    · rfl
    · split
      · rfl
      · rw [if_pos]
        rw [Bool.or_eq_true]
        left
        exact h
section
variable (P : Pr) (t : Ct) (f : CE → Expr → Bool) (n : Nat)
def topc (t : Ct) : Str → Bool := fun _ => t.top
def swB (t : Ct) (x : Str) (px : Pos) : Expr → Bool
  | .ListComp _ _ sc p => decide (t.sc.names.lookup x = some .local) && (px.line == p.line) && !(sc.names.any fun (m, kd) => m == x && (kd == .local || kd == .cell))
  | _ => false
def ckAsg (i : Nat) (c : CE) : Stmt → Bool
  | .Assign [.Name x px] e _ => storeb t (topc t) i x && f c e && (notComp e || (match c, e with
    | .lc _ _ _ _, .ListComp _ _ _ _ => decide (t.sc.kind = .function)
    | _, _ => false))
  | _ => false
def ckAsgT (is : List Nat) (c : CE) : Stmt → Bool
  | .Assign [.Tuple ts k p] e _ => decide (is.length ≠ 1) && (match nmsOf ts with
    | some xs => decide (xs.length = is.length) && ((xs.zip is).all fun p => storeb t (topc t) p.2 p.1)
    | none => false) && f c e && (match e with
    | .Tuple vs _ _ => swNo t.sc ts vs && vs.all notStar && decide (t.sc.kind = .function)
    | _ => true)
  | _ => false
def ckTs : List (List Nat) → List Expr → Bool
  | [], [] => true
  | tg :: tgs, tE :: ts => (match tgNms tg tE with
    | some xs => decide (xs.length = tg.length) && ((xs.zip tg).all fun p => storeb t (topc t) p.2 p.1)
    | none => false) && ckTs tgs ts
  | _, _ => false
def ckAsgN (tgs : List (List Nat)) (c : CE) : Stmt → Bool
  | .Assign [.Tuple ts k p] e _ => ckTs t tgs ts && f c e && (match e with
    | .Tuple vs _ _ => swNo t.sc ts vs && vs.all notStar && decide (t.sc.kind = .function)
    | _ => true)
  | _ => false
def ckPar (is : List Nat) (cs : CEs) : Stmt → Bool
  | .Assign [.Tuple [.Name x px, .Name y py] _ _] (.Tuple [a, b] _ _) _ => match is with
    | [i, j] => decide (t.N[i]? = some x) && decide (t.N[j]? = some y) && decide (i ≠ j) && decide (t.sc.names.lookup x = some .local) && decide (t.sc.names.lookup y = some .local) && (py.line == px.line) && !(x == y) && decide (t.sc.kind = .function) &&
        ckA f cs [a, b] && !([a, b].all (foldedForSure 8)) && !([a, b].all (constantsAlone 8))
    | _ => false
  | .Assign [.Tuple [.Name x px, .Name y py, .Name z pz] _ _] (.Tuple [a, b, c] _ _) _ => match is with
    | [i, j, m] => decide (t.N[i]? = some x) && decide (t.N[j]? = some y) && decide (t.N[m]? = some z) && decide (i ≠ j) && decide (i ≠ m) && decide (j ≠ m) && decide (t.sc.names.lookup x = some .local) && decide (t.sc.names.lookup y = some .local) && decide (t.sc.names.lookup z = some .local) && (py.line == px.line) && (pz.line == px.line) && !(x == y) && !(x == z) && !(y == z) && decide (t.sc.kind = .function) &&
        ckA f cs [a, b, c] && !([a, b, c].all (foldedForSure 8)) && !([a, b, c].all (constantsAlone 8))
    | _ => false
  | _ => false
def ckTg : List (Nat × Option CE) → List Expr → Bool
  | [], [] => true
  | (i, none) :: tgs, .Name x _ :: ts => storeb t (topc t) i x && ckTg tgs ts
  | (i, some c) :: tgs, .Subscript (.Name x _) kE _ :: ts => slotb t i x && f c kE && notSlice kE && ckTg tgs ts
  | _, _ => false
def ckParG (tgs : List (Nat × Option CE)) (cs : CEs) : Stmt → Bool
  | .Assign [.Tuple ts k p] (.Tuple vs k2 p2) _ => ckTg t f tgs ts && ckA f cs vs && swNo t.sc ts vs && decide (t.sc.kind = .function) && decide (tgs.length ≤ 1000)
  | _ => false
def ckSet (i : Nat) (ck ce : CE) : Stmt → Bool
  | .Assign [.Subscript (.Name x _) kE _] e _ => slotb t i x && f ck kE && notSlice kE && f ce e && notComp e && notTup e
  | _ => false
def ckSetD (i : Nat) (ck ce : CE) : Stmt → Bool
  | .Assign [.Subscript (.Name x _) kE _] e _ => slotb t i x && f ck kE && f ce e && notComp e
  | _ => false
def ckExp (c : CE) : Stmt → Bool
  | .Expr e _ => f c e && notComp e
  | _ => false
def ckRetV (i : Nat) : Stmt → Bool
  | .Return (some (.Name x _)) _ => slotb t i x
  | _ => false
def ckRet (c : CE) : Stmt → Bool
  | .Return (some e) _ => f c e
  | _ => false
mutual
def ckS : CS → Stmt → Bool
  | .nev, _ => true
  | .asg i c, st => ckAsg t f i c st
  | .asgT is c, st => ckAsgT t f is c st
  | .asgN tgs c, st => ckAsgN t f tgs c st
  | .par is cs, st => ckPar t f is cs st
  | .parG tgs cs, st => ckParG t f tgs cs st
  | .set i ck ce, st => ckSet t f i ck ce st
  | .setD i ck ce, st => ckSetD t f i ck ce st
  | .exp c, st => ckExp f c st
  | .retV i, st => ckRetV t i st
  | .ret c, st => ckRet f c st
  | .retN, .Return none _ => true
  | .ifs c a b, .If e p q _ => f c e && notIf e && ckB a p && ckB b q
  | .for_ tg it b, .For tgE iter body [] _ => (match tgNms tg tgE with
    | some xs => decide (xs.length = tg.length) && ((xs.zip tg).all fun p => storeb t (topc t) p.2 p.1)
    | none => false) && ckI P t f tg it iter && notSet iter && ckB b body
  | .pass, .Pass _ => true
  | .brk, .Break _ => true
  | .cnt, .Continue _ => true
  | _, _ => false
def ckB : CSs → List Stmt → Bool
  | .nil, [] => true
  | .cons c cs, st :: sts => ckS c st && ckB cs sts
  | _, _ => false
end
end
section
variable {C : Cn} {H0 : Hp} {W0 : Gh} {F : FT} {k : Nat} {P : Pr} {t : Ct} {X : Cx} {n : Nat} {Wx : WX}
section
variable (g : CxG C P t k X) (tk : Takes X Wx) (fo : FnsOk C F k X)
include g tk fo
theorem top_ok (h : topc t x = true) : X.fn x = true := g.fn h x
theorem wAsg {i : Nat} {c : CE} {st : Stmt} (h : ckAsg t (ckE P n t) i c st = true) : PS X st (tSt C H0 W0 Wx (exS F (.asg i c))) := by
  unfold ckAsg at h
  split at h
  · rename_i x px e pos
    simp only [Bool.and_eq_true, Bool.or_eq_true] at h
    obtain ⟨⟨h1, h2⟩, h3⟩ := h
    obtain ⟨q1, q2, q3⟩ := store_ok' g (fun x z => g.fn z x) h1
    have pe := (ckE_ok (C := C) (H0 := H0) (W0 := W0) (F := F) (k := k) n t c e h2 X [] Wx g tk fo).1
    rcases h3 with h3 | h3
    · exact zAsg g.nd q1 q2 pe (swaps_of h3) q3
    · split at h3
      · rename_i it tg cond elt el gs scope lp
        have hk : X.env.scope.kind = .function := by rw [g.hsc]; exact of_decide_eq_true h3
        · have hb : X.env.blockKind = .function := by unfold Env.blockKind; rw [hk]; rfl
          by_cases hsw : (decide (X.env.scope.names.lookup x = some .local) && (px.line == lp.line) && !(scope.names.any fun (m, kd) => m == x && (kd == .local || kd == .cell))) = true
          · simp only [Bool.and_eq_true, decide_eq_true_eq, Bool.not_eq_true'] at hsw
            cases n with
            | zero => cases h2
            | succ n =>
              have h2 : ckLc P t (ckE P n t) (fun t => ckE P n t) it tg cond elt (.ListComp el gs scope lp) = true := h2
              have h0 := h2
              unfold ckLc at h2
              split at h2
              · rename_i heq
                cases heq
                obtain ⟨⟨own, b1, b2⟩, hi, hg, ht, he, hs⟩ := lcParts (fun c e => ckE_ok (C := C) (H0 := H0) (W0 := W0) (F := F) (k := k) n t c e) (fun t c e => ckE_ok n t c e) h0 (T := []) g tk fo
                exact zAsgLc g.calm g.nd q1 hsw.1.1 (sw_true hk hsw.1.1 hsw.1.2 hsw.2) b1 b2 hi hg ht he hs
              · cases h2
          · refine zAsg g.nd q1 q2 pe ?_ q3
            unfold swapsWith
            have e2 : (X.env.blockKind == .function && X.env.kindOf x == some .local && px.line == lp.line && !(scope.names.any fun (m, kd) => m == x && (kd == .local || kd == .cell))) = false := by
              rw [hb]
              have : (X.env.kindOf x == some NameKind.local) = decide (X.env.scope.names.lookup x = some .local) := by
                show (X.env.scope.names.lookup x == some NameKind.local) = _
                by_cases e : X.env.scope.names.lookup x = some .local
                · rw [e]; rfl
                · rw [decide_eq_false e]; exact beq_eq_false_iff_ne.mpr e
              rw [this]
              exact Bool.eq_false_iff.mpr hsw
            show (pure (X.env.blockKind == .function && X.env.kindOf x == some .local && px.line == lp.line && !(scope.names.any fun (m, kd) => m == x && (kd == .local || kd == .cell))) : Sem Bool) = pure false
            rw [e2]
      · cases h3
  · cases h
theorem wAsgT {is : List Nat} {c : CE} {st : Stmt} (h : ckAsgT t (ckE P n t) is c st = true) : PS X st (tSt C H0 W0 Wx (exS F (.asgT is c))) := by
  unfold ckAsgT at h
  split at h
  · rename_i ts kt pt e pos
    simp only [Bool.and_eq_true, decide_eq_true_eq] at h
    obtain ⟨⟨⟨h1, h2⟩, h3⟩, h4⟩ := h
    split at h2
    · rename_i xs hx
      simp only [Bool.and_eq_true, decide_eq_true_eq, List.all_eq_true] at h2
      have pg := pg_of (K := C.K) g.nd g.calm g.hK (tgE := .Tuple ts kt pt) (tg := is) (by show (if is.length ≠ 1 then nmsOf ts else none) = some xs; rw [if_pos h1]; exact hx) h2.1 fun p hp => store_ok' g (fun x z => g.fn z x) (h2.2 p hp)
      refine zAsgT h1 (tgt_of is) (ckE_ok (C := C) (H0 := H0) (W0 := W0) (F := F) (k := k) n t c e h3 X [] Wx g tk fo).1 pg sole_tup ?_ rfl
      cases e with
      | Tuple vs k2 p2 =>
        simp only [Bool.and_eq_true, decide_eq_true_eq, List.all_eq_true] at h4
        refine swNo_ok ?_ (by rw [g.hsc]; exact h4.2) (by rw [g.hsc]; exact h4.1.1)
        rw [List.any_eq_false]
        intro v hv
        have := h4.1.2 v hv
        cases v <;> first | exact Bool.false_ne_true | cases this
      | _ => rfl
    · cases h2
  · cases h
omit g tk fo in
theorem takeN {W : Gh} {s : Sto} {H : Hp} {T : Hid} : ∀ {tgs : List (List Nat)} {vs : List V} {xs : List Val} {r r' : Rho} {sg : L2.St} (_ : Okk C H0 W0 T W r s sg H) (_ : Reps C W xs vs) (_ : bindN tgs xs r = some r') {Q : L2.St → Hp → Prop}
    (_ : ∀ sg', Okk C H0 W0 T W r' s sg' H → Q sg' H), gTgs C.K tgs vs sg H Q
  | [], vs, xs, r, r', sg, o, rs, hb, Q, q => by
    cases xs with
    | nil =>
      obtain rfl := reps_nil.mp rs
      cases hb
      exact ⟨rfl, q _ o⟩
    | cons => cases hb
  | tg :: tgs, vs, xs, r, r', sg, o, rs, hb, Q, q => by
    cases xs with
    | nil => cases hb
    | cons x xs =>
      obtain ⟨v, ws, rfl, hv, rs⟩ := reps_cons.mp rs
      rw [bindN] at hb
      cases e : bindT tg x r with
      | none => rw [e] at hb; cases hb
      | some r1 =>
        rw [e] at hb
        exact ⟨v, ws, rfl, (tgt_of (K := C.K) tg).take o hv e fun sg' o' _ => takeN o' rs hb q⟩
theorem pgsN : ∀ {tgs : List (List Nat)} {ts : List Expr}, ckTs t tgs ts = true → PGs X ts (gTgs C.K tgs) ∧ (assignEach ts X.env).length = tgs.length ∧ (assignEach ts X.env).findIdx? (·.1) = none
  | [], [], _ => ⟨pgs_nil, rfl, rfl⟩
  | [], _ :: _, h => by cases h
  | _ :: _, [], h => by cases h
  | tg :: tgs, tE :: ts, h => by
    rw [ckTs, Bool.and_eq_true] at h
    obtain ⟨h1, h2⟩ := h
    obtain ⟨g1, g2, g3⟩ := pgsN h2
    split at h1
    · rename_i xs hx
      simp only [Bool.and_eq_true, decide_eq_true_eq, List.all_eq_true] at h1
      have pg := pg_of (K := C.K) g.nd g.calm g.hK (tgE := tE) (tg := tg) hx h1.1 fun p hp => store_ok' g (fun x z => g.fn z x) (h1.2 p hp)
      have hs : assignEach (tE :: ts) X.env = (false, assign tE X.env) :: assignEach ts X.env := by
        unfold tgNms at hx
        split at hx
        · rfl
        · rfl
        · cases hx
      refine ⟨pgs_cons pg g1 (by rw [hs]; rfl), ?_, ?_⟩
      · rw [hs, List.length_cons, g2]; rfl
      · rw [hs, List.findIdx?_cons, g3]; rfl
    · cases h1
theorem wAsgN {tgs : List (List Nat)} {c : CE} {st : Stmt} (h : ckAsgN t (ckE P n t) tgs c st = true) : PS X st (tSt C H0 W0 Wx (exS F (.asgN tgs c))) := by
  unfold ckAsgN at h
  split at h
  · rename_i ts kt pt e pos
    simp only [Bool.and_eq_true] at h
    obtain ⟨⟨h1, h3⟩, h4⟩ := h
    obtain ⟨g1, g2, g3⟩ := pgsN (C := C) (k := k) g tk fo h1
    have pg : PG X (.Tuple ts kt pt) (gTup C.K tgs.length (gTgs C.K tgs)) := by rw [← g.hK] at g1 ⊢; exact pg_tup g.calm g1 g2 g3
    have hw : swappedStores [.Tuple ts kt pt] e X.env = pure none := by
      cases e with
      | Tuple vs k2 p2 =>
        simp only [Bool.and_eq_true, decide_eq_true_eq, List.all_eq_true] at h4
        refine swNo_ok ?_ (by rw [g.hsc]; exact h4.2) (by rw [g.hsc]; exact h4.1.1)
        rw [List.any_eq_false]
        intro v hv
        have := h4.1.2 v hv
        cases v <;> first | exact Bool.false_ne_true | cases this
      | _ => rfl
    refine (ps_asg (peV (ckE_ok (C := C) (H0 := H0) (W0 := W0) (F := F) (k := k) n t c e h3 X [] Wx g tk fo).1) pg sole_tup hw rfl).conv ?_
    rintro D sg H ⟨W, r, s, o, p⟩
    rw [exS] at p
    refine ⟨W, r, s, o, p.bind.imp ?_⟩
    rintro x G ⟨U, r1, s1, v, l1, o1, rx, p1⟩
    cases v with
    | tup xs =>
      dsimp only at p1
      cases e2 : bindN tgs xs r1 with
      | none => rw [e2] at p1; exact p1.elim
      | some r2 =>
        rw [e2] at p1
        obtain ⟨a, vs, rfl, tt, rs⟩ := rep_tup rx
        have ln : vs.length = tgs.length := by rw [← rs.length]; exact bindN_len e2
        exact ⟨a, vs, rfl, tt.sq o1.sub, ln, takeN o1 rs e2 fun sg' o' => p1 U sg' G (Gh.le.refl _) o'⟩
    | _ => exact p1.elim
  · cases h
theorem pPar {cs : CEs} {es : List Expr} (h : ckA (ckE P n t) cs es = true) : PA X es (tP C H0 W0 Wx (evP F cs)) := by
  induction es generalizing cs with
  | nil =>
    cases cs with
    | nil => exact sPNil
    | cons => cases h
  | cons e es ih =>
    obtain ⟨a, cs, rfl, q1, q2, q3⟩ := ckA_head h
    exact sPCons (fun T => (ckE_ok (C := C) (H0 := H0) (W0 := W0) (F := F) (k := k) n t a e q2 X T Wx g tk fo).1) (ih q3) (star_cons q1)
omit g tk fo in
theorem ckA_nostar {f : CE → Expr → Bool} : ∀ {cs : CEs} {es : List Expr}, ckA f cs es = true → (es.any fun | .Starred .. => true | _ => false) = false
  | .nil, [], _ => rfl
  | .cons c cs, e :: es, h => by
    obtain ⟨a, cs', hc, q1, q2, q3⟩ := ckA_head h
    cases hc
    rw [List.any_cons, ckA_nostar q3, Bool.or_false]
    cases e <;> first | rfl | cases q1
  | .nil, _ :: _, h => by cases h
  | .cons _ _, [], h => by cases h
theorem wPar {is : List Nat} {cs : CEs} {st : Stmt} (h : ckPar t (ckE P n t) is cs st = true) : PS X st (tSt C H0 W0 Wx (exS F (.par is cs))) := by
  unfold ckPar at h
  split at h
  · split at h
    · simp only [Bool.and_eq_true, decide_eq_true_eq, Bool.not_eq_true'] at h
      obtain ⟨⟨⟨⟨⟨⟨⟨⟨⟨⟨h1, h2⟩, h3⟩, h4⟩, h5⟩, h6⟩, h7⟩, h8⟩, h9⟩, h10⟩, h11⟩ := h
      exact zPar2 g.calm g.nd (by rw [g.hN]; exact h1) (by rw [g.hN]; exact h2) h3 (by rw [g.hsc]; exact h4) (by rw [g.hsc]; exact h5) (pPar g tk fo h9) (swap2 (by rw [g.hsc]; exact h8) (by rw [g.hsc]; exact h4) (by rw [g.hsc]; exact h5) h6 h7 (ckA_nostar h9) h10 h11)
    · cases h
  · split at h
    · simp only [Bool.and_eq_true, decide_eq_true_eq, Bool.not_eq_true'] at h
      obtain ⟨⟨⟨⟨⟨⟨⟨⟨⟨⟨⟨⟨⟨⟨⟨⟨⟨h1, h2⟩, h3⟩, h4⟩, h5⟩, h6⟩, h7⟩, h8⟩, h9⟩, h10⟩, h11⟩, h12⟩, h13⟩, h14⟩, h15⟩, h16⟩, h17⟩, h18⟩ := h
      exact zPar3 g.calm g.nd (by rw [g.hN]; exact h1) (by rw [g.hN]; exact h2) (by rw [g.hN]; exact h3) h4 h5 h6 (by rw [g.hsc]; exact h7) (by rw [g.hsc]; exact h8) (by rw [g.hsc]; exact h9) (pPar g tk fo h16)
        (swap3 (by rw [g.hsc]; exact h15) (by rw [g.hsc]; exact h7) (by rw [g.hsc]; exact h8) (by rw [g.hsc]; exact h9) h10 h11 h12 h13 h14 (ckA_nostar h16) h17 h18)
    · cases h
  · cases h
omit g tk fo in
theorem assign_sub {o kE : Expr} {p2 : Pos} {env : Env} (h : notSlice kE = true) (v : Value) : assign (.Subscript o kE p2) env v = (do
      let ov ← holding [v] (eval o env)
      let iv ← holding [v, ov] (eval kE env)
      standAt p2
      holding [v, ov, iv] (setItem ov iv v)
      release [v, ov, iv] []) := by
  cases kE <;> first | rfl | cases h
theorem pgsG : ∀ {tgs : List (Nat × Option CE)} {ts : List Expr}, ckTg t (ckE P n t) tgs ts = true → PGs X ts (gTgG C H0 W0 Wx F tgs) ∧ (assignEach ts X.env).length = tgs.length ∧ (assignEach ts X.env).findIdx? (·.1) = none
  | [], [], _ => ⟨pgs_nil, rfl, rfl⟩
  | [], _ :: _, h => by cases h
  | (_, none) :: _, [], h => by cases h
  | (_, some _) :: _, [], h => by cases h
  | (i, none) :: tgs, tE :: ts, h => by
    unfold ckTg at h
    split at h
    · rename_i e _; cases e
    · rename_i e1 e2
      cases e1
      cases e2
      rw [Bool.and_eq_true] at h
      obtain ⟨g1, g2, g3⟩ := pgsG h.2
      obtain ⟨q1, q2, q3⟩ := store_ok' g (fun x z => g.fn z x) h.1
      refine ⟨pgs_cons (pg_name g.nd q1 q2 q3) g1 rfl, ?_, ?_⟩
      · show (assignEach ts X.env).length + 1 = _
        rw [g2]; rfl
      · show List.findIdx? (·.1) ((false, _) :: assignEach ts X.env) = none
        rw [List.findIdx?_cons, g3]; rfl
    · rename_i e _; cases e
    · cases h
  | (i, some c) :: tgs, tE :: ts, h => by
    unfold ckTg at h
    split at h
    · rename_i e _; cases e
    · rename_i e _; cases e
    · rename_i e1 e2
      cases e1
      cases e2
      simp only [Bool.and_eq_true] at h
      obtain ⟨⟨⟨h1, h2⟩, h3⟩, h4⟩ := h
      obtain ⟨g1, g2, g3⟩ := pgsG h4
      obtain ⟨q1, q2, q3, q4⟩ := slot_ok g h1
      refine ⟨pgs_cons (pg_sub (pe_var q1 q2 q3 q4) (peEx fun T => peV (ckE_ok (C := C) (H0 := H0) (W0 := W0) (F := F) (k := k) n t c _ h2 X T Wx g tk fo).1) set_list (assign_sub h3)) g1 rfl, ?_, ?_⟩
      · show (assignEach ts X.env).length + 1 = _
        rw [g2]; rfl
      · show List.findIdx? (·.1) ((false, _) :: assignEach ts X.env) = none
        rw [List.findIdx?_cons, g3]; rfl
    · cases h
theorem wParG {tgs : List (Nat × Option CE)} {cs : CEs} {st : Stmt} (h : ckParG t (ckE P n t) tgs cs st = true) : PS X st (tSt C H0 W0 Wx (exS F (.parG tgs cs))) := by
  unfold ckParG at h
  split at h
  · rename_i ts kt pt vs k2 p2 pos
    simp only [Bool.and_eq_true, decide_eq_true_eq] at h
    obtain ⟨⟨⟨⟨h1, h2⟩, h3⟩, h4⟩, h5⟩ := h
    obtain ⟨g1, g2, g3⟩ := pgsG (C := C) (H0 := H0) (W0 := W0) (F := F) (k := k) g tk fo h1
    have pg : PG X (.Tuple ts kt pt) (gTup C.K tgs.length (gTgG C H0 W0 Wx F tgs)) := by rw [← g.hK]; exact pg_tup g.calm g1 g2 g3
    exact zParG (pPar g tk fo h2) pg (by rw [sizeLine_eq]; omega) sole_tup (swNo_ok (ckA_nostar h2) (by rw [g.hsc]; exact h4) (by rw [g.hsc]; exact h3))
  · cases h
theorem wSetD {i : Nat} {ck ce : CE} {st : Stmt} (h : ckSetD t (ckE P n t) i ck ce st = true) : PS X st (tSt C H0 W0 Wx (exS F (.setD i ck ce))) := by
  unfold ckSetD at h
  split at h
  · simp only [Bool.and_eq_true] at h
    obtain ⟨⟨⟨h1, h2⟩, h3⟩, h4⟩ := h
    obtain ⟨q1, q2, q3, q4⟩ := slot_ok g h1
    exact zSetD g.toCg q1 q2 q3 q4 (ckE_ok (C := C) (H0 := H0) (W0 := W0) (F := F) (k := k) n t ck _ h2 X [] Wx g tk fo).1 (ckE_ok (C := C) (H0 := H0) (W0 := W0) (F := F) (k := k) n t ce _ h3 X [] Wx g tk fo).1 (swaps_of h4)
  · cases h
theorem wSet {i : Nat} {ck ce : CE} {st : Stmt} (h : ckSet t (ckE P n t) i ck ce st = true) : PS X st (tSt C H0 W0 Wx (exS F (.set i ck ce))) := by
  unfold ckSet at h
  split at h
  · simp only [Bool.and_eq_true] at h
    obtain ⟨⟨⟨⟨⟨h1, h2⟩, h3⟩, h4⟩, h5⟩, h6⟩ := h
    obtain ⟨q1, q2, q3, q4⟩ := slot_ok g h1
    exact zSet q1 q2 q3 q4 (ckE_ok (C := C) (H0 := H0) (W0 := W0) (F := F) (k := k) n t _ _ h2 X [] Wx g tk fo).1 (ckE_ok (C := C) (H0 := H0) (W0 := W0) (F := F) (k := k) n t _ _ h4 X [] Wx g tk fo).1 (assign_sub h3) (sole_of h5) (stores_of h6)
  · cases h
theorem wExp {c : CE} {st : Stmt} (h : ckExp (ckE P n t) c st = true) : PS X st (tSt C H0 W0 Wx (exS F (.exp c))) := by
  unfold ckExp at h
  split at h
  · simp only [Bool.and_eq_true] at h
    exact zExp (ckE_ok (C := C) (H0 := H0) (W0 := W0) (F := F) (k := k) n t _ _ h.1 X [] Wx g tk fo).1 (swaps_of h.2)
  · cases h
theorem wRetV {i : Nat} {st : Stmt} (h : ckRetV t i st = true) : PS X st (tSt C H0 W0 Wx (exS F (.retV i))) := by
  unfold ckRetV at h
  split at h
  · obtain ⟨q1, q2, q3, q4⟩ := slot_ok g h
    exact zRetV q1 q2 q3 q4
  · cases h
theorem wRet {c : CE} {st : Stmt} (h : ckRet (ckE P n t) c st = true) : PS X st (tSt C H0 W0 Wx (exS F (.ret c))) := by
  unfold ckRet at h
  split at h
  · exact zRet (ckE_ok (C := C) (H0 := H0) (W0 := W0) (F := F) (k := k) n t _ _ h X [] Wx g tk fo).1
  · cases h
mutual
theorem ckS_ok : ∀ (c : CS) (st : Stmt), ckS P t (ckE P n t) c st = true → PS X st (tSt C H0 W0 Wx (exS F c))
  | .nev, _, _ => zNev
  | .asg i c, st, h => wAsg g tk fo (n := n) (by rw [ckS] at h; exact h)
  | .asgT is c, st, h => wAsgT g tk fo (n := n) (by rw [ckS] at h; exact h)
  | .asgN is c, st, h => wAsgN g tk fo (n := n) (by rw [ckS] at h; exact h)
  | .par is cs, st, h => wPar g tk fo (n := n) (by rw [ckS] at h; exact h)
  | .parG tgs cs, st, h => wParG g tk fo (n := n) (by rw [ckS] at h; exact h)
  | .set i ck ce, st, h => wSet g tk fo (n := n) (by rw [ckS] at h; exact h)
  | .setD i ck ce, st, h => wSetD g tk fo (n := n) (by rw [ckS] at h; exact h)
  | .exp c, st, h => wExp g tk fo (n := n) (by rw [ckS] at h; exact h)
  | .retV i, st, h => wRetV g tk fo (by rw [ckS] at h; exact h)
  | .ret c, st, h => wRet g tk fo (n := n) (by rw [ckS] at h; exact h)
  | .retN, st, h => by
    cases st <;> first | (simp only [ckS] at h; cases h; done) | skip
    rename_i v p
    cases v with
    | none => exact zRetN
    | some => simp [ckS] at h
  | .ifs c a b, st, h => by
    cases st <;> first | (simp only [ckS] at h; cases h; done) | skip
    rw [ckS] at h
    simp only [Bool.and_eq_true] at h
    obtain ⟨⟨⟨h1, h2⟩, h3⟩, h4⟩ := h
    exact zIf ((ckE_ok (C := C) (H0 := H0) (W0 := W0) (F := F) (k := k) n t _ _ h1 X [] Wx g tk fo).2 h2) (ckB_ok a _ h3) (ckB_ok b _ h4)
  | .for_ tg it b, st, h => by
    cases st <;> first | (simp only [ckS] at h; cases h; done) | skip
    rename_i tgE iter body orelse p
    cases orelse with
    | cons => simp [ckS] at h
    | nil =>
      rw [ckS] at h
      simp only [Bool.and_eq_true] at h
      obtain ⟨⟨⟨h1, h2⟩, h3⟩, h4⟩ := h
      split at h1
      · rename_i xs e
        simp only [Bool.and_eq_true, decide_eq_true_eq, List.all_eq_true] at h1
        exact zFor g.po g.calm (oI (fun c e => ckE_ok (C := C) (H0 := H0) (W0 := W0) (F := F) (k := k) n t c e) (by rw [e]; rfl) h2 g tk fo) (pg_of g.nd g.calm g.hK e h1.1 fun p hp => store_ok' g (fun x z => g.fn z x) (h1.2 p hp)) (ckB_ok b _ h4) (fun x => folded_of h3 x)
      · cases h1
  | .pass, st, h => by
    cases st <;> first | (simp only [ckS] at h; cases h; done) | skip
    exact zPass
  | .brk, st, h => by
    cases st <;> first | (simp only [ckS] at h; cases h; done) | skip
    exact zBrk
  | .cnt, st, h => by
    cases st <;> first | (simp only [ckS] at h; cases h; done) | skip
    exact zCnt
  | .while_ _ _, st, h => by cases st <;> simp [ckS] at h
  | .raise _, st, h => by cases st <;> simp [ckS] at h
  | .try_ _, st, h => by cases st <;> simp [ckS] at h
  | .aug _ _ _, st, h => by cases st <;> simp [ckS] at h
theorem ckB_ok : ∀ (cs : CSs) (sts : List Stmt), ckB P t (ckE P n t) cs sts = true → PSs X sts (tSt C H0 W0 Wx (exB F cs))
  | .nil, [], _ => zNil
  | .cons c cs, st :: sts, h => by
    rw [ckB] at h
    simp only [Bool.and_eq_true] at h
    exact zCons (ckS_ok c st h.1) (ckB_ok cs sts h.2)
  | .nil, _ :: _, h => by simp [ckB] at h
  | .cons _ _, [], h => by simp [ckB] at h
end
end
end
/-- a def's body: as it is checked, or one try that lets nothing out -/
def ckD (P : Pr) (t : Ct) (f : CE → Expr → Bool) (cs : CSs) (sts : List Stmt) : Bool := ckB P t f cs sts || (match cs, sts with
  | .cons (.try_ b) .nil, [.Try body (_ :: _) [] [] _] => ckB P t f b body
  | _, _ => false)
section
variable {C : Cn} {H0 : Hp} {W0 : Gh} {F : FT} {k : Nat} {P : Pr} {t : Ct} {X : Cx} {n : Nat} {Wx : WX}
theorem ckD_ok (g : CxG C P t k X) (tk : Takes X Wx) (fo : FnsOk C F k X) (cs : CSs) (sts : List Stmt) (h : ckD P t (ckE P n t) cs sts = true) : PSs X sts (tSt C H0 W0 Wx (exB F cs)) := by
  unfold ckD at h
  rw [Bool.or_eq_true] at h
  rcases h with h | h
  · exact ckB_ok g tk fo cs sts h
  · split at h
    · rename_i b body h0 hs pos
      have g2 : CxG C P t k X.nox := { hK := g.hK, hm := g.hm, gd := g.gd, sm := g.sm, un := g.un, hfn := g.hfn, hex := g.hex, hN := g.hN, nd := g.nd, hsc := g.hsc, calm := g.calm, room := g.room, fn := g.fn, bl := g.bl, cs := g.cs, po := PassesOwn.never, fo := g.fo }
      have z := ckB_ok (Wx := fun _ _ _ _ => False) (H0 := H0) (W0 := W0) g2 (fun u s' q => by obtain ⟨a, B, sI, pins, σ, H, cls, d, e, I, nb, up, sky, na, os, ag, w⟩ := q; exact w.elim) fo b body h
      refine (pss_one (ps_try_thru0 (h₀ := h0) (hs := hs) (pos := pos) z)).conv ?_
      rintro D sg H ⟨W, r, s, o, p⟩
      refine ⟨W, r, s, o, ?_⟩
      rw [exB, exS] at p
      revert p
      cases exB F b r s with
      | err => exact fun p => p
      | exc e r s => exact fun p => p.elim
      | ok fl r s =>
        cases fl <;> exact fun p => p
    · cases h
end
end Gz
/-! The defs of a text, all together; the law's head. -/
namespace Gz
open PySem PySem.Spec PyProof.Rows L2
/-- a def stands as the table says -/
def DefF (K : PySem.W.Frag) (mg : Str → Option Value) (P : Pr) (n : Nat) (x : Str) (d : Def) : Prop :=
  ∃ (st : Stmt) (fa : Addr) (fd : FuncData) (ps N : List Str), Fun K x x st fa fd ∧ FnScope N ps (defScope st) ∧ Binds K fd ps [] ∧ mg x = some (.ref fa) ∧ d.ps = ps.length ∧ d.n = N.length ∧
    ckD P ⟨N, defScope st, true, false⟩ (ckE P n ⟨N, defScope st, true, false⟩) d.body (defBody st) = true ∧ ∃ od sl, K.lookup fa = some ⟨.type "function", od, .func fd, sl⟩ ∧ fd.name = x
/-- what the module's names say -/
structure ModF (C : Cn) (P : Pr) (mg : Str → Option Value) : Prop where
  bl : ∀ x ∈ P.bl, mg x = none
  cs : ∀ x v, P.cs.lookup x = some v → ∃ u xv, mg x = some u ∧ RelV xv u ∧ ∀ W, Rep C W v xv
structure ModG (C : Cn) (P : Pr) (mg : Str → Option Value) : Prop extends ModF C P mg where
  fo : ∀ (f : Nat) (x : Str), P.fns[f]? = some x → FnObj C.K mg x
section
variable {Q0 : Program} {w : World} {K : PySem.W.Frag} {mg : Str → Option Value} {base : Heap} {fns exs : List Str} {P : Pr} {T : List Def} {n : Nat}
def FnsB (Q0 : Program) (w : World) (K : PySem.W.Frag) (mg : Str → Option Value) (base : Heap) (C : Cn) (F : FT) (k : Nat) : Prop := ∀ (f : Nat) (x : Str), C.fns[f]? = some x → ∃ fa fd ps, mg x = some (.ref fa) ∧ PySem.W.keepIn K (.ref fa) = true ∧ Binds K fd ps [] ∧ (∀ xs s, F f xs s = .err ∨ xs.length = ps.length) ∧
  FG Q0 w K mg base (L2.CX Q0 w) k fa fd ps (spF C F f ps.length)
theorem callN_len {T : List Def} {f : Nat} {d : Def} (e : T[f]? = some d) : ∀ (k : Nat) (xs : List Val) (s : Sto), callN T k f xs s = .err ∨ xs.length = d.ps
  | 0, _, _ => .inl rfl
  | k + 1, xs, s => by
    rw [callN, e]
    show runD _ d xs s = .err ∨ _
    unfold runD
    by_cases h : xs.length = d.ps
    · exact .inr h
    · exact .inl (if_neg h)
theorem start_ok {C : Cn} {H : Hp} {W : Gh} {s : Sto} {N : List Str} {vs : List V} {xs : List Val} (o : Okk C H W [] W [] s [] H) (rs : Reps C W xs vs) :
    Okk C H W [] W (xs.map (fun v => some (.val v)) ++ List.replicate (N.length - xs.length) none) s (start N vs) H := by
  have hl := rs.length
  have look : ∀ (i : Nat) (y : Slot), (xs.map (fun v => some (Slot.val v)) ++ List.replicate (N.length - xs.length) none)[i]? = some (some y) → ∃ v, xs[i]? = some v ∧ y = .val v := fun i y q => by
    by_cases hi : i < xs.length
    · rw [List.getElem?_append_left (by simpa using hi), List.getElem?_map, List.getElem?_eq_getElem hi] at q
      cases q
      exact ⟨_, List.getElem?_eq_getElem hi, rfl⟩
    · rw [List.getElem?_append_right (by simpa using hi), List.getElem?_replicate] at q
      split at q <;> cases q
  refine ⟨o.sub, o.len, o.sto, o.nd, fun i v q => ?_, fun i ys q => ?_, fun i j ys zs y q => ?_, ?_, o.fH, o.fF, o.le, o.fL, fun p hp => by simp at hp, o.hnd⟩
  · obtain ⟨u, e, z⟩ := look i _ q
    cases z
    obtain ⟨x, h1, h2⟩ := rs.get e
    refine ⟨x, ?_, h2⟩
    unfold L2.start
    have : i < vs.length := by
      rcases Nat.lt_or_ge i vs.length with z | z
      · exact z
      · rw [List.getElem?_eq_none z] at h1; cases h1
    rw [List.getElem?_append_left (by simpa using this), List.getElem?_map, h1]; rfl
  · obtain ⟨u, e, z⟩ := look i _ q
    subst z
    exact fun b => by cases b
  · obtain ⟨u, e, z⟩ := look i _ q
    subst z
    exact fun _ b => by cases b
  · unfold L2.start
    simp only [List.length_append, List.length_map, List.length_replicate]
    omega
theorem bareE {C : Cn} {H : Hp} {W U : Gh} {r : Rho} {s : Sto} {sg : L2.St} {G : Hp} (o : Okk C H W [] U r s sg G) : Okk C H W [] U [] s [] G :=
  ⟨o.sub, o.len, o.sto, o.nd, fun i v q => by simp at q, fun i v q => by simp at q, fun i j xs ys x q => by simp at q, rfl, o.fH, o.fF, o.le, o.fL, fun p hp => by simp at hp, List.nodup_nil⟩
/-- a def's promise, from those of the level below -/
theorem fnStep {k f : Nat} {x : Str} {d : Def} {st : Stmt} {fa : Addr} {fd : FuncData} {ps N : List Str} (M : ModG ⟨K, mg, P.fns, P.exs⟩ P mg) (sm : ∃ mm, base.Ns sysModules mm) (ih : FnsB Q0 w K mg base ⟨K, mg, P.fns, P.exs⟩ (callN T k) k) (hd : T[f]? = some d) (F : Fun K x x st fa fd) (S : FnScope N ps (defScope st)) (h1 : d.ps = ps.length) (h2 : d.n = N.length)
    (h3 : ckD P ⟨N, defScope st, true, false⟩ (ckE P n ⟨N, defScope st, true, false⟩) d.body (defBody st) = true) : FG Q0 w K mg base (L2.CX Q0 w) (k + 1) fa fd ps (spF ⟨K, mg, P.fns, P.exs⟩ (callN T (k + 1)) f ps.length) := by
  refine fg_of F S (fun vs H Q E q => q.1) ?_
  intro cdv A out s H vs Q E hg hr q
  obtain ⟨hl, W, sto, xs, o, rs, q⟩ := q
  let X := cxOf (L2.CX Q0 w) Q0 w K mg base N x (defScope st) fa cdv A out s H E
  have g : CxG ⟨K, mg, P.fns, P.exs⟩ P ⟨N, defScope st, true, false⟩ k X :=
    { hK := rfl, hm := rfl, gd := hg, sm := sm, un := by have := hr.un; show X.A.units + 70 < cLine; have e : X.A.units + 16 * k + 200 < cLine := this; omega,
      hfn := rfl, hex := rfl, hN := rfl, nd := S.nd, hsc := rfl, calm := rfl, room := hr, fn := fun _ _ => rfl, bl := M.bl, cs := M.cs, po := passes_of rfl, fo := M.fo }
  have tk : Takes X (fun cls d _ H => E cls d H) := takes_of rfl rfl rfl rfl
  refine ⟨_, ckD_ok (C := ⟨K, mg, P.fns, P.exs⟩) (H0 := H) (W0 := W) (F := callN T k) (n := n) g tk ih d.body (defBody st) h3, W, _, sto, start_ok (N := N) o rs, ?_⟩
  have hlx : xs.length = d.ps := by rw [rs.length, hl, h1]
  rw [callN, hd] at q
  dsimp only at q
  unfold runD at q
  rw [if_pos hlx] at q
  have e : N.length - xs.length = d.n - d.ps := by rw [h2, hlx]
  rw [e]
  revert q
  cases exB (callN T k) d.body (xs.map (fun v => some (.val v)) ++ List.replicate (d.n - d.ps) none) sto with
  | err => exact fun q => q
  | exc ex r1 s1 => exact fun q U cls dd sg G l o1 er => q U cls dd G l (bareE o1) er
  | ok fl r1 s1 =>
    intro q
    cases fl with
    | next => exact fun U sg G l o1 => q U .non G l (bareE o1) (by show Rep ⟨K, mg, P.fns, P.exs⟩ U .non .non; rw [Rep])
    | brk => exact q.elim
    | cnt => exact q.elim
    | ret v =>
      intro U sg y G l o1 ry
      refine q U y G l (bareE o1) ?_
      cases v with
      | val v => exact ry
      | fr ys =>
        obtain ⟨a, ws, rfl, g1, g2, g3, g4, g5, _⟩ := ry
        exact ⟨a, ws, rfl, g1, g2, g3, g4, g5, fun i ys q => by simp at q, fun p hp => by simp at hp⟩
      | fd ys =>
        obtain ⟨a, ws, rfl, g1, g2, g3, g4, g5, _⟩ := ry
        exact ⟨a, ws, rfl, g1, g2, g3, g4, g5, fun i ys q => by simp at q, fun p hp => by simp at hp⟩
/-- all defs keep their promises, at every level -/
theorem fnsB (hD : ∀ (f : Nat) (x : Str), P.fns[f]? = some x → ∃ d, T[f]? = some d ∧ DefF K mg P n x d) (M : ModG ⟨K, mg, P.fns, P.exs⟩ P mg) (sm : ∃ mm, base.Ns sysModules mm) : ∀ k, FnsB Q0 w K mg base ⟨K, mg, P.fns, P.exs⟩ (callN T k) k
  | 0, f, x, hf => by
    obtain ⟨d, hd, st, fa, fd, ps, N, F, S, B, hm, h1, h2, h3, _⟩ := hD f x hf
    refine ⟨fa, fd, ps, hm, F.kp, B, fun xs s => .inl rfl, ⟨fun vs H Q E q => q.1, ?_⟩⟩
    intro A out s H args us vs Q E _ _ _ _ _ q
    obtain ⟨_, W, s, xs, _, _, q⟩ := q
    exact q.elim
  | k + 1, f, x, hf => by
    obtain ⟨d, hd, st, fa, fd, ps, N, F, S, B, hm, h1, h2, h3, _⟩ := hD f x hf
    exact ⟨fa, fd, ps, hm, F.kp, B, fun xs s => h1 ▸ callN_len hd (k + 1) xs s, fnStep M sm (fnsB hD M sm k) hd F S h1 h2 h3⟩
/-- the defs in a row -/
def DefsF (K : PySem.W.Frag) (mg : Str → Option Value) (P : Pr) (n : Nat) : List Str → List Def → Prop
  | [], [] => True
  | x :: xs, d :: ds => DefF K mg P n x d ∧ DefsF K mg P n xs ds
  | _, _ => False
theorem DefsF.get : ∀ {xs : List Str} {ds : List Def}, DefsF K mg P n xs ds → ∀ (f : Nat) (x : Str), xs[f]? = some x → ∃ d, ds[f]? = some d ∧ DefF K mg P n x d
  | [], [], _, f, x, e => by simp at e
  | x :: xs, d :: ds, h, 0, y, e => by
    cases e
    exact ⟨d, rfl, h.1⟩
  | x :: xs, d :: ds, h, f + 1, y, e => h.2.get f y e
  | [], _ :: _, h, _, _, _ => h.elim
  | _ :: _, [], h, _, _, _ => h.elim
def scb (N ps : List Str) (sc : Scope) : Bool := decide (sc.kind = .function) && !sc.isCoroutine && !sc.isGenerator && decide N.Nodup && decide (N.take ps.length = ps) && (ps.all fun x => locb sc x) && (sc.names.all fun y => !decide (y.2 = .free))
theorem scb_ok {N ps : List Str} {sc : Scope} (h : scb N ps sc = true) : FnScope N ps sc := by
  unfold scb at h
  simp only [Bool.and_eq_true, decide_eq_true_eq, Bool.not_eq_true', List.all_eq_true, decide_eq_false_iff_not] at h
  obtain ⟨⟨⟨⟨⟨⟨h1, h2⟩, h3⟩, h4⟩, h5⟩, h6⟩, h7⟩ := h
  exact ⟨h1, h2, h3, h4, h5, fun x hx => loc_ok (h6 x hx), h7⟩
/-- a def from what the machine laid -/
theorem defF {x : Str} {d : Def} {st : Stmt} {f : Addr} {od an : Option Addr} {osl : Array (Option Value)} {kV doc pm cdv ct : Value} {h : Heap} (KX : K.In h) (G : h.Ns mainGlobals mg) (N ps : List Str)
    (a : PySem.W.nsIn K mainGlobals x = some (some (.ref f))) (l : K.lookup f = some ⟨.type "function", od, .func (PySem.W.fnOf x x (defArgs st) (defBody st) (defScope st) .none kV doc pm an cdv ct), osl⟩) (c : PySem.W.codeIn K cdv x = true) (kp : PySem.W.keepIn K (.ref f) = true)
    (hb : ∀ (kV doc pm : Value) (an : Option Addr) (cdv ct : Value) (us : List Value), us.length = ps.length → bindArgs (PySem.W.fnOf x x (defArgs st) (defBody st) (defScope st) .none kV doc pm an cdv ct) ⟨us, []⟩ = pure (ps.zip us))
    (ck : (scb N ps (defScope st) && decide (d.ps = ps.length) && decide (d.n = N.length) && ckD P ⟨N, defScope st, true, false⟩ (ckE P n ⟨N, defScope st, true, false⟩) d.body (defBody st)) = true) : DefF K mg P n x d := by
  simp only [Bool.and_eq_true, decide_eq_true_eq] at ck
  obtain ⟨⟨⟨h1, h2⟩, h3⟩, h4⟩ := ck
  have F := fun_mk (st := st) l c kp
  exact ⟨st, f, _, ps, N, F, scb_ok h1, F.binds hb, PySem.W.mg_of KX G a, h2, h3, h4, _, _, l, rfl⟩
end
/-! ### the law's head -/
/-- at the script: the run of the table answers True -/
def Says (F : FT) (f : Nat) (ns : List Int) : Prop := ∃ s, F f [.fz ns] [] = .ok (.val (.bl true)) s
theorem lawG {P : Program} {w : World} {K : PySem.W.Frag} {mg mb : Str → Option Value} {C : Cn} {F : FT} {f k : Nat} {fa a : Addr} {fd : FuncData} {x : Str} {s1 : Shared} {us : List Value} {ns : List Int} (hC : C.K = K)
    (KX : K.In s1.heap) (hns : s1.heap.Ns mainGlobals mg) (hb : s1.heap.Ns builtinsNs mb) (hbb : ∀ z : Str, z ≠ "__name__" → mb z = bootBuiltins z) (hsys : ∃ mm, s1.heap.Ns sysModules mm) (hlim : s1.heap.NoLimit) (hgn : s1.gens = #[])
    (ha : s1.heap.get? a = some { cls := .type "list", data := .seq us.toArray }) (hi : IntsAre us ns) (hl : ns.length ≤ sizeLine) (room : Room k callerA)
    (fg : ∀ base : Heap, K.In base → base.Ns mainGlobals mg → (∃ mm, base.Ns sysModules mm) → FG P w K mg base (L2.CX P w) k fa fd [x] (spF C F f 1)) (bind1 : BindsTo s1 fd ⟨[.ref a], []⟩ [(x, .ref a)]) (says : Says F f ns) :
    codeAny (model P w) callerA (.call (.ref fa) ⟨[.ref a], []⟩) (fun r s' => r = .ok (.ret (.bool true)) ∧ OldK s1.heap s'.heap ∧ s'.os = s1.os ∧ AllBare s'.gens) s1 := by
  have vals := vals_ints hi
  have ll := hi.length
  have go : ∀ G : Hp, Only G → SqL K G a (ns.map V.int) → HOk P w G s1.heap → (∀ b, G b ≠ none → b = a) → (G a ≠ none → K.lookup a = none) →
      codeAny (model P w) callerA (.call (.ref fa) ⟨[.ref a], []⟩) (fun r s' => r = .ok (.ret (.bool true)) ∧ OldK s1.heap s'.heap ∧ s'.os = s1.os ∧ AllBare s'.gens) s1 := by
    intro G only sq hok alone apart
    have dicts : ∀ {b : Addr} {ob : Obj} {es : Array DictEntry} {m : Nat}, s1.heap.get? b = some ob → ob.data = .dict es m → G b = none := by
      intro b ob es m e dd
      rcases Option.eq_none_or_eq_some (G b) with z | ⟨o, z⟩
      · exact z
      · obtain rfl := alone b (by rw [z]; exact Option.some_ne_none _)
        rw [ha] at e
        cases e
        cases dd
    have spaces : ∀ {b : Addr} {m : Str → Option Value}, s1.heap.Ns b m → (hidT s1.heap G).Ns b m := by
      rintro b m ⟨ob, es, z, e, dd, rest⟩
      exact ⟨ob, es, z, hidT_get e (dicts e dd), dd, rest⟩
    have inB : K.In (hidT s1.heap G) := by
      intro b ob e
      refine hidT_get (KX b ob e) ?_
      rcases Option.eq_none_or_eq_some (G b) with z | ⟨o, z⟩
      · exact z
      · obtain rfl := alone b (by rw [z]; exact Option.some_ne_none _)
        rw [apart (by rw [z]; exact Option.some_ne_none _)] at e
        cases e
    obtain ⟨mc, c1, c2⟩ := hlim
    obtain ⟨mm, c3⟩ := hsys
    have env : Env0 P w K mg (hidT s1.heap G) callerA [] s1 G :=
      ⟨rfl, ⟨inB, spaces hns, ⟨mb, spaces hb, hbb⟩, ⟨mc, spaces c1, c2⟩⟩, fun b ob e => of_hidT e, Nat.le_of_eq (hidT_size _ _), trivial, (by intro b hb; exact absurd (show b ∈ ([] : List Addr) from hb) List.not_mem_nil), hok, AllBare.of_eq hgn⟩
    have promise : spF C F f 1 [.ref a] G (fun v _ => v = .bl true) fun _ _ _ => False := by
      refine ⟨rfl, ⟨[], G⟩, [], [.fz ns], ⟨fun _ _ h => h, rfl, fun i b q => by simp at q, List.nodup_nil, fun i v q => by simp at q, fun i v q => by simp at q, fun i j xs ys z q => by simp at q, rfl, fun _ _ h _ => h, fun _ _ _ h => h, Gh.le.refl _, fun b hb => by simp at hb, fun p hp => by simp at hp, List.nodup_nil⟩, ?_, ?_⟩
      · refine .cons ?_ .nil
        rw [Rep]
        exact ⟨a, rfl, hC ▸ sq⟩
      · obtain ⟨s', e⟩ := says
        rw [e]
        intro U y J _ _ ry
        exact rep_bl (C := C) (W := U) ry
    refine codeAny_mono ((fg _ inB (spaces hns) ⟨mm, spaces c3⟩).run callerA [] s1 G ⟨[.ref a], []⟩ [.ref a] [.ref a] _ _ rfl room env bind1 (.cons rfl .nil) promise) ?_
    intro r s' q
    cases r with
    | error e =>
      obtain ⟨_, _, _, _, _, _, _, _, _, _, _, _, z⟩ := q
      exact z.elim
    | ok fl =>
      cases fl with
      | next => exact q.elim
      | brk => exact q.elim
      | cont => exact q.elim
      | ret u =>
        obtain ⟨v, J, os, bare, un, hok', rv, q⟩ := q
        obtain rfl : v = .bl true := q
        obtain rfl : u = Value.bool true := rv
        refine ⟨rfl, OldK.of_keep ?_, os, bare⟩
        intro b ob e
        rcases only b with z | ⟨o2, xs, z⟩
        · exact un.keep b ob e z (fun h => absurd (show b ∈ ([] : List Addr) from h) List.not_mem_nil) (fun h => absurd h List.not_mem_nil)
        · have z2 := un.frzs b o2 _ z
          have e1 := (hok b _ z).1
          rw [e] at e1
          cases e1
          exact (hok' b _ z2).1
  rcases Option.eq_none_or_eq_some (K.lookup a) with hk | ⟨ob, hk⟩
  · let it : Obj := { cls := .type "list", data := .seq us.toArray }
    have at1 : ∀ b : Addr, (if b = a then some (HO.frz it (.lst (ns.map V.int))) else none : Option HO) = none ∨ (b = a ∧ (if b = a then some (HO.frz it (.lst (ns.map V.int))) else none : Option HO) = some (HO.frz it (.lst (ns.map V.int)))) := by
      intro b
      by_cases hb : b = a
      · exact .inr ⟨hb, if_pos hb⟩
      · exact .inl (if_neg hb)
    refine go (fun b => if b = a then some (HO.frz it (.lst (ns.map V.int))) else none) (fun b => (at1 b).imp id fun z => ⟨_, _, z.2⟩) (.inl (.inr ⟨it, if_pos rfl⟩)) ?_ ?_ (fun _ => hk)
    · intro b u z
      rcases at1 b with y | ⟨rfl, y⟩
      · cases y.symm.trans z
      · cases y.symm.trans z
        exact ⟨ha, by rw [List.length_map]; exact hl, us, _, vals, ha⟩
    · intro b z
      rcases at1 b with y | ⟨rfl, _⟩
      · exact absurd y z
      · rfl
  · have e := KX a ob hk
    rw [ha] at e
    cases e
    refine go (fun _ => none) (fun _ => .inl rfl) (.inr ⟨_, us.toArray, _, hk, rfl, rfl, rfl, ?_, by simpa using vals⟩) (fun b u z => by cases z) (fun b z => absurd rfl z) fun z => absurd rfl z
    rw [List.size_toArray, ll]
    exact hl
/-- the law, from the table -/
theorem walkG {l : PySem.W.OpenLaw} {m k n : Nat} {q : Program} {loose : List Str} {XP : (Str → Option Value) → Heap → Prop} {YP : World → Heap → Prop} {d : DefRec} {K : Params → PySem.W.Frag} {P : Pr} {T : List Def} {f : Nat}
    (hn : l.most = some m) (hm : m ≤ sizeLine) (hd : d.params.defaults = []) (room : Room (k + 1) callerA) (himp : importsNone q = true) (hY : ∀ (w : World) (h : Heap), YP w h → (K w.params).In h) (hf : P.fns[f]? = some d.name) (hp : ∀ e, T[f]? = some e → e.ps = 1)
    (fg : ∀ (w : World) (mg : Str → Option Value) (h : Heap), (K w.params).In h → h.Ns mainGlobals mg → DefsF (K w.params) mg P n P.fns T ∧ ModF ⟨K w.params, mg, P.fns, P.exs⟩ P mg)
    (says : ∀ ns : List Int, ns.length ≤ m → (∀ z ∈ ns, Builtin.Int.intBits z ≤ 1048576) → Says (callN T (k + 1)) f ns) : PySem.W.WalkO q loose XP YP l.row.toRowW d [] (fun f vs => PySem.call f vs) := by
  have key : ∀ (w : World) (mg : Str → Option Value) (fa : Addr) (h : Heap), (K w.params).In h → h.Ns mainGlobals mg → mg d.name = some (.ref fa) →
      ∃ (fd : FuncData) (y : Str), (∀ (s : Shared) (u : Value), (K w.params).In s.heap → BindsTo s fd ⟨[u], []⟩ [(y, u)]) ∧
        ∀ base : Heap, (K w.params).In base → base.Ns mainGlobals mg → (∃ mm, base.Ns sysModules mm) → FG l.prog w (K w.params) mg base (L2.CX l.prog w) (k + 1) fa fd [y] (spF ⟨K w.params, mg, P.fns, P.exs⟩ (callN T (k + 1)) f 1) := by
    intro w mg fa h KX G hmg
    obtain ⟨D, M0⟩ := fg w mg h KX G
    have M : ModG ⟨K w.params, mg, P.fns, P.exs⟩ P mg := ⟨M0, fun f x hx => by
      obtain ⟨_, _, st, fa, fd, ps, N, F, S, B, hm, _, _, _, od, sl, q1, q2⟩ := D.get f x hx
      exact ⟨fa, od, fd, sl, hm, q1, q2⟩⟩
    obtain ⟨e, he, st, fa', fd, ps, N, F, S, B, hm', h1, h2, h3, _⟩ := D.get f d.name hf
    rw [hmg] at hm'
    cases hm'
    have hl : ps.length = 1 := by rw [← h1]; exact hp e he
    match ps, hl with
    | [y], _ =>
      refine ⟨fd, y, fun s u ki => ?_, fun base kb gb sm => ?_⟩
      · have := B s [u] ki rfl
        exact this
      · exact fnStep M sm (fnsB D.get M sm k) he F S h1 h2 h3
  refine Att.attach_callB hn hd ?_
  intro w s0 s1 mg mb fa o pm cd doc a vs ns G Y ho hdd hcd hmg hobj hints hlen hbits hgens
  obtain ⟨fd, y, bi, fo⟩ := key w mg fa _ (hY w _ Y) G.T.g hmg
  obtain ⟨mm, c, _⟩ := (G.T.seer himp).mods
  exact lawG (C := ⟨K w.params, mg, P.fns, P.exs⟩) (x := y) rfl (hY w _ Y) G.T.g G.T.b G.T.builtins ⟨mm, c⟩ G.T.nolimit hgens hobj hints (Nat.le_trans hlen hm) room fo (bi s1 (.ref a) (hY w _ Y)) (says ns hlen hbits)
end Gz
/-! Plain laws of the evaluator: data that may be shown, pens. -/
namespace Gz
open PySem L2
/-! ### data that may be shown -/
mutual
def wt : Val → Nat
  | .non => 4
  | .bl _ => 5
  | .int _ => 1921
  | .str x => (reprText x).length
  | .tup xs => wts xs + 3
  | .lst xs => wts xs + 2
  | .dct kvs => wtk kvs + 2
  | _ => 0
def wts : List Val → Nat
  | [] => 0
  | x :: xs => wt x + 2 + wts xs
def wtk : List (Key × Val) → Nat
  | [] => 0
  | (_, x) :: r => 1921 + 2 + wt x + 2 + wtk r
end
mutual
def dp : Val → Nat
  | .tup xs => dps xs + 1
  | .lst xs => dps xs + 1
  | .dct kvs => dpk kvs + 1
  | _ => 0
def dps : List Val → Nat
  | [] => 0
  | x :: xs => max (dp x) (dps xs)
def dpk : List (Key × Val) → Nat
  | [] => 0
  | (_, x) :: r => max (dp x) (dpk r)
end
mutual
def fine : Val → Bool
  | .non => true
  | .bl _ => true
  | .int i => decide (i.natAbs.log2 < 1920)
  | .str _ => true
  | .tup xs => fines xs
  | .lst xs => fines xs
  | .dct kvs => finek kvs
  | _ => false
def fines : List Val → Bool
  | [] => true
  | x :: xs => fine x && fines xs
def finek : List (Key × Val) → Bool
  | [] => true
  | (.inl i, x) :: r => decide (i.natAbs.log2 < 1920) && fine x && finek r
  | (.inr _, _) :: _ => false
end
theorem text_le : ∀ (ts : List Str) (k : Nat) (acc : Str), (textFrom k acc ts).length ≤ acc.length + piled ts
  | [], _, _ => Nat.le_add_right _ _
  | t :: ts, k, acc => by
    rw [textFrom, piled_cons]
    refine Nat.le_trans (text_le ts _ _) ?_
    rw [strLen_append, strLen_append]
    have : (Str.ofString (if k > 0 then ", " else "")).length ≤ 2 := by split <;> decide
    omega
theorem list_le (ts : List Str) : (listText ts).length ≤ piled ts + 2 := by
  unfold listText
  rw [strLen_append]
  have h := text_le ts 0 "["
  have e1 : (Str.ofString "[").length = 1 := rfl
  have e2 : (Str.ofString "]").length = 1 := rfl
  omega
theorem join_le (ts : List Str) : (Str.join ", " ts).length ≤ piled ts := by
  by_cases h : ts = []
  · subst h; exact Nat.zero_le _
  · have := join_length_add ts h
    omega
theorem tup_le (ts : List Str) : (tupleText ts).length ≤ piled ts + 3 := by
  unfold tupleText
  rw [strLen_append, strLen_append]
  have h := join_le ts
  have e1 : (Str.ofString "(").length = 1 := rfl
  have e2 : (Str.ofString (if ts.length == 1 then ",)" else ")")).length ≤ 2 := by split <;> decide
  omega
theorem dct_le (ts : List Str) : (dictText ts).length ≤ piled ts + 2 := by
  unfold dictText
  rw [strLen_append, strLen_append]
  have h := join_le ts
  have e1 : (Str.ofString "{").length = 1 := rfl
  have e2 : (Str.ofString "}").length = 1 := rfl
  omega
mutual
theorem fine_ok : ∀ {v : Val}, fine v = true → ∃ d, toD v = some d ∧ d.showable = true ∧ d.depth ≤ dp v ∧ d.shown.length ≤ wt v
  | .non, _ => ⟨.none, rfl, rfl, Nat.le_refl _, by decide⟩
  | .bl true, _ => ⟨.bool true, rfl, rfl, Nat.le_refl _, by decide⟩
  | .bl false, _ => ⟨.bool false, rfl, rfl, Nat.le_refl _, by decide⟩
  | .int i, h => by
    rw [fine, decide_eq_true_eq] at h
    refine ⟨.int i, rfl, ?_, Nat.le_refl _, ?_⟩
    · rw [PyData.showable]; exact decide_eq_true h
    · rw [PyData.shown, wt]; exact PyProof.Rows.int_text_len_1921 h
  | .str x, _ => ⟨.str x, rfl, rfl, Nat.le_refl _, by rw [PyData.shown, wt]; exact Nat.le_refl _⟩
  | .tup xs, h => by
    obtain ⟨ds, h1, h2, h3, h4⟩ := fines_ok (by rw [fine] at h; exact h)
    refine ⟨.tuple ds, by rw [toD, h1]; rfl, by rw [PyData.showable]; exact h2, by rw [PyData.depth, dp]; omega, ?_⟩
    rw [PyData.shown, wt]
    exact Nat.le_trans (tup_le _) (by omega)
  | .lst xs, h => by
    obtain ⟨ds, h1, h2, h3, h4⟩ := fines_ok (by rw [fine] at h; exact h)
    refine ⟨.list ds, by rw [toD, h1]; rfl, by rw [PyData.showable]; exact h2, by rw [PyData.depth, dp]; omega, ?_⟩
    rw [PyData.shown, wt]
    exact Nat.le_trans (list_le _) (by omega)
  | .dct kvs, h => by
    obtain ⟨ds, h1, h2, h3, h4⟩ := finek_ok (by rw [fine] at h; exact h)
    refine ⟨.dict ds, by rw [toD, h1]; rfl, by rw [PyData.showable]; exact h2, by rw [PyData.depth, dp]; omega, ?_⟩
    rw [PyData.shown, wt]
    exact Nat.le_trans (dct_le _) (by omega)
  | .fz _, h => by simp [fine] at h
  | .loc _, h => by simp [fine] at h
  | .fn _, h => by simp [fine] at h
theorem fines_ok : ∀ {xs : List Val}, fines xs = true → ∃ ds, toDs xs = some ds ∧ PyData.showableAll ds = true ∧ PyData.depthAll ds ≤ dps xs ∧ piled (PyData.shownAll ds) ≤ wts xs
  | [], _ => ⟨[], rfl, rfl, Nat.le_refl _, Nat.le_refl _⟩
  | x :: xs, h => by
    rw [fines, Bool.and_eq_true] at h
    obtain ⟨d, a1, a2, a3, a4⟩ := fine_ok h.1
    obtain ⟨ds, b1, b2, b3, b4⟩ := fines_ok h.2
    refine ⟨d :: ds, by rw [toDs, a1, b1], by rw [PyData.showableAll, a2, b2]; rfl, by rw [PyData.depthAll, dps]; omega, ?_⟩
    rw [PyData.shownAll, piled_cons, wts]; omega
theorem finek_ok : ∀ {xs : List (Key × Val)}, finek xs = true → ∃ ds, toDk xs = some ds ∧ PyData.showableKv ds = true ∧ PyData.depthKv ds ≤ dpk xs ∧ piled (PyData.shownKv ds) ≤ wtk xs
  | [], _ => ⟨[], rfl, rfl, Nat.le_refl _, Nat.le_refl _⟩
  | (.inl i, x) :: xs, h => by
    rw [finek, Bool.and_eq_true, Bool.and_eq_true, decide_eq_true_eq] at h
    obtain ⟨⟨h0, h1⟩, h2⟩ := h
    obtain ⟨d, a1, a2, a3, a4⟩ := fine_ok h1
    obtain ⟨ds, b1, b2, b3, b4⟩ := finek_ok h2
    refine ⟨(.int i, d) :: ds, by rw [toDk, a1, b1]; rfl, ?_, ?_, ?_⟩
    · rw [PyData.showableKv, a2, b2, PyData.showable, decide_eq_true h0]; rfl
    · rw [PyData.depthKv, dpk, PyData.depth]; omega
    · rw [PyData.shownKv, piled_cons, wtk, strLen_append, strLen_append, PyData.shown]
      have e : (Str.ofString ": ").length = 2 := rfl
      have e2 := PyProof.Rows.int_text_len_1921 h0
      omega
  | (.inr _, _) :: _, h => by simp [finek] at h
end
theorem rep_fine {v : Val} (h : fine v = true) (hd : dp v ≤ 60) (hw : wt v ≤ sizeLine) : ∃ z, rep v = some z := by
  obtain ⟨d, h1, h2, h3, h4⟩ := fine_ok h
  refine ⟨d.shown, ?_⟩
  unfold rep
  rw [h1]
  dsimp only
  rw [if_pos]
  simp only [Bool.and_eq_true, decide_eq_true_eq]
  exact ⟨⟨h2, by omega⟩, by omega⟩
/-! ### lists of fine values -/
theorem fines_iff {xs : List Val} : fines xs = true ↔ ∀ x ∈ xs, fine x = true := by
  induction xs with
  | nil => simp [fines]
  | cons x xs ih => simp [fines, ih]
theorem wts_append (xs ys : List Val) : wts (xs ++ ys) = wts xs + wts ys := by
  induction xs with
  | nil => simp [wts]
  | cons x xs ih => simp [wts, ih]; omega
theorem dps_le {xs : List Val} {n : Nat} : dps xs ≤ n ↔ ∀ x ∈ xs, dp x ≤ n := by
  induction xs with
  | nil => simp [dps]
  | cons x xs ih => simp [dps, ← ih]; omega
theorem wts_take (xs : List Val) (n : Nat) : wts (xs.take n) ≤ wts xs := by
  conv => rhs; rw [← List.take_append_drop n xs, wts_append]
  omega
theorem wts_drop (xs : List Val) (n : Nat) : wts (xs.drop n) ≤ wts xs := by
  conv => rhs; rw [← List.take_append_drop n xs, wts_append]
  omega
theorem wts_split (xs : List Val) (n : Nat) : wts (xs.take n) + wts (xs.drop n) = wts xs := by
  rw [← wts_append, List.take_append_drop]
theorem wts_reverse (xs : List Val) : wts xs.reverse = wts xs := by
  induction xs with
  | nil => rfl
  | cons x xs ih => rw [List.reverse_cons, wts_append, ih]; simp [wts]; omega
theorem wts_le {xs : List Val} {b : Nat} (h : ∀ x ∈ xs, wt x ≤ b) : wts xs ≤ xs.length * (b + 2) := by
  induction xs with
  | nil => simp [wts]
  | cons x xs ih =>
    have h1 := h x List.mem_cons_self
    have h2 := ih fun y hy => h y (List.mem_cons_of_mem _ hy)
    rw [wts, List.length_cons, Nat.add_mul]
    omega
theorem wt_mem {xs : List Val} {x : Val} (h : x ∈ xs) : wt x + 2 ≤ wts xs := by
  induction xs with
  | nil => simp at h
  | cons y ys ih =>
    rw [wts]
    rcases List.mem_cons.mp h with rfl | h
    · omega
    · have := ih h
      omega
theorem log_small {i : Int} (h : i.natAbs < 2 ^ 1000) : i.natAbs.log2 < 1920 := by
  by_cases h0 : i.natAbs = 0
  · rw [h0]; decide
  · exact Nat.lt_of_lt_of_le ((Nat.log2_lt h0).mpr h) (by decide)
theorem small_int {i : Int} (h1 : -(10 ^ 20) ≤ i) (h2 : i ≤ 10 ^ 20) : i.natAbs.log2 < 1920 := log_small (Nat.lt_of_le_of_lt (show i.natAbs ≤ 10 ^ 20 by omega) (by decide))
end Gz
/-! Pens: what is drawn. -/
namespace Gz
open PySem L2
section
variable {i j : Int} {xs ys : List Val} {x y : Str} {v w : Val} {r : Rho} {s : Sto}
@[simp] theorem v_val : (Rv.val v).v = v := id rfl
@[simp] theorem v_fr : (Rv.fr xs).v = .lst xs := id rfl
@[simp] theorem v_fd {kvs : List (Key × Val)} : (Rv.fd kvs).v = .dct kvs := id rfl
@[simp] theorem b_add : binop .add (.int i) (.int j) = some (.val (.int (i + j))) := id rfl
@[simp] theorem b_sub : binop .sub (.int i) (.int j) = some (.val (.int (i - j))) := id rfl
theorem b_mul (h : (-18446744073709551616 < i ∧ i < 18446744073709551616) ∨ (-18446744073709551616 < j ∧ j < 18446744073709551616)) : binop .mul (.int i) (.int j) = some (.val (.int (i * j))) := if_pos h
theorem b_mod (h : 0 < j) : binop .mod (.int i) (.int j) = some (.val (.int (i % j))) := if_pos h
theorem b_fdiv (h : 0 < j) (h2 : j < 1073741824) : binop .fdiv (.int i) (.int j) = some (.val (.int (i / j))) := if_pos ⟨h, h2⟩
theorem b_pow (h : 0 ≤ j ∧ j ≤ 1000000 ∧ i.natAbs < 2 ^ 64) : binop .pow (.int i) (.int j) = some (.val (.int (i ^ j.toNat))) := if_pos h
theorem b_addT (h : xs.length + ys.length ≤ sizeLine) : binop .add (.tup xs) (.tup ys) = some (.val (.tup (xs ++ ys))) := if_pos h
theorem b_addL (h : xs.length + ys.length ≤ sizeLine) : binop .add (.lst xs) (.lst ys) = some (.fr (xs ++ ys)) := if_pos h
theorem b_mulT (h : xs ≠ [] ∧ 2 ≤ j ∧ j ≤ 1000 ∧ xs.length ≤ 1000) : binop .mul (.tup xs) (.int j) = some (.val (.tup (List.replicate j.toNat xs).flatten)) := if_pos h
theorem b_addS (h : x.length + y.length ≤ sizeLine) : binop .add (.str x) (.str y) = some (.val (.str (x ++ y))) := if_pos h
@[simp] theorem eqq_int : eqq (.int i) (.int j) = some (i == j) := by
  show (if (SeqAt.shaped (.int i) && SeqAt.shaped (.int j)) = true then some (PyData.eqv (.int i) (.int j)) else none) = _
  rw [if_pos (by rfl)]
  rw [PyData.eqv]
@[simp] theorem eqq_bool {a b : Bool} : eqq (.bl a) (.bl b) = some (a == b) := by
  show (if (SeqAt.shaped (.bool a) && SeqAt.shaped (.bool b)) = true then some (PyData.eqv (.bool a) (.bool b)) else none) = _
  rw [if_pos (by rfl)]
  rw [PyData.eqv]
@[simp] theorem eqq_str : eqq (.str x) (.str y) = some (x == y) := id rfl
@[simp] theorem eqq_tnil : eqq (.tup xs) (.tup []) = some xs.isEmpty := by cases xs <;> rfl
@[simp] theorem eqq_lnil : eqq (.lst xs) (.lst []) = some xs.isEmpty := by
  cases xs with
  | nil => rfl
  | cons a as => rfl
@[simp] theorem c_eq : cmpop .eq v w = eqq v w := id rfl
@[simp] theorem c_ne : cmpop .ne v w = (eqq v w).map (!·) := id rfl
@[simp] theorem c_lt : cmpop .lt (.int i) (.int j) = some (decide (i < j)) := id rfl
@[simp] theorem c_le : cmpop .le (.int i) (.int j) = some (decide (i ≤ j)) := id rfl
@[simp] theorem c_gt : cmpop .gt (.int i) (.int j) = some (decide (j < i)) := id rfl
@[simp] theorem c_ge : cmpop .ge (.int i) (.int j) = some (decide (j ≤ i)) := id rfl
@[simp] theorem x_tup : idxop (.tup xs) (.int i) = atI xs i := id rfl
@[simp] theorem x_lst : idxop (.lst xs) (.int i) = atI xs i := id rfl
@[simp] theorem x_fz {ns : List Int} : idxop (.fz ns) (.int i) = (atI ns i).map .int := id rfl
@[simp] theorem s_tup {lo hi : Option Int} : slcop (.tup xs) lo hi = some (.val (.tup (cut xs lo hi))) := id rfl
@[simp] theorem s_lst {lo hi : Option Int} : slcop (.lst xs) lo hi = some (.fr (cut xs lo hi)) := id rfl
@[simp] theorem rv_tup : revop (.tup xs) = some (.val (.tup xs.reverse)) := id rfl
@[simp] theorem rv_lst : revop (.lst xs) = some (.fr xs.reverse) := id rfl
@[simp] theorem l_tup : bltop .len [.tup xs] = some (.val (.int xs.length)) := id rfl
@[simp] theorem l_lst : bltop .len [.lst xs] = some (.val (.int xs.length)) := id rfl
@[simp] theorem l_fz {ns : List Int} : bltop .len [.fz ns] = some (.val (.int ns.length)) := id rfl
@[simp] theorem t_tup : bltop .tuple [.tup xs] = some (.val (.tup xs)) := id rfl
@[simp] theorem t_lst : bltop .tuple [.lst xs] = some (.val (.tup xs)) := id rfl
@[simp] theorem li_tup : bltop .list [.tup xs] = some (.fr xs) := id rfl
@[simp] theorem li_lst : bltop .list [.lst xs] = some (.fr xs) := id rfl
@[simp] theorem b_repr : bltop .repr [v] = (rep v).map fun z => .val (.str z) := id rfl
@[simp] theorem b_max2 : bltop .max2 [.int i, .int j] = some (.val (.int (if j > i then j else i))) := id rfl
@[simp] theorem b_min2 : bltop .min2 [.int i, .int j] = some (.val (.int (if j < i then j else i))) := id rfl
@[simp] theorem b_all : bltop .all [.lst xs] = (bools? xs).map fun bs => .val (.bl (bs.all id)) := id rfl
@[simp] theorem b_sum : bltop .sum [.lst xs] = (ints? xs).map fun bs => .val (.int bs.sum) := id rfl
@[simp] theorem i_tup : items (.tup xs) = some xs := id rfl
@[simp] theorem i_lst : items (.lst xs) = some xs := id rfl
@[simp] theorem exc_noExc {a : Type} {z : a} : noExc (.ok z r s) = .ok z r s := id rfl
end
theorem callN_eq {T : List Def} {k f : Nat} {d : Def} {vs : List Val} {s : Sto} (h : T[f]? = some d) : callN T (k + 1) f vs s = runD (callN T k) d vs s := by rw [callN, h]
/-- a pen with at most n draws by stirring -/
def Pen (s : Sto) (i : Nat) (n : Int) : Prop := ∃ a b c : Int, s[i]? = some [.int a, .int b, .int c] ∧ 0 ≤ a ∧ 0 ≤ b ∧ b < 1000000007 ∧ 0 ≤ c ∧ c ≤ n
def Draw : Def := ⟨2, 4,
    (.cons (.ifs (.cmp .gt (.idxV 0 (.cst (.int 0))) (.cst (.int 0)))
    (.cons (.asg 2 (.bin .mod (.idxV 0 (.cst (.int 0))) (.var 1)))
    (.cons (.set 0 (.cst (.int 0)) (.bin .fdiv (.idxV 0 (.cst (.int 0))) (.var 1)))
    (.cons (.retV 2)
    .nil)))
    .nil)
    (.cons (.set 0 (.cst (.int 2)) (.bin .add (.idxV 0 (.cst (.int 2))) (.cst (.int 1))))
    (.cons (.asg 3 (.bin .mod (.bin .mul (.bin .add (.idxV 0 (.cst (.int 1))) (.bin .mul (.cst (.int 17)) (.idxV 0 (.cst (.int 2))))) (.bin .add (.cst (.int 69621)) (.bin .mul (.cst (.int 2)) (.idxV 0 (.cst (.int 2)))))) (.cst (.int 2147483647))))
    (.cons (.asg 3 (.bin .mod (.bin .add (.bin .add (.bin .mul (.var 3) (.var 3)) (.bin .mul (.cst (.int 40503)) (.idxV 0 (.cst (.int 2))))) (.cst (.int 5))) (.cst (.int 2147483629))))
    (.cons (.ret (.bin .mod (.bin .fdiv (.bin .mod (.bin .mul (.var 3) (.cst (.int 48271))) (.cst (.int 2147483647))) (.cst (.int 32))) (.var 1)))
    .nil)))))⟩
theorem atI3 {a b c : Val} : atI [a, b, c] 0 = some a ∧ atI [a, b, c] 1 = some b ∧ atI [a, b, c] 2 = some c := ⟨rfl, rfl, rfl⟩
theorem ixN3 : ixN 3 0 = some 0 ∧ ixN 3 1 = some 1 ∧ ixN 3 2 = some 2 := ⟨rfl, rfl, rfl⟩
theorem lt_of_get {a : Type} {l : List a} {i : Nat} {x : a} (h : l[i]? = some x) : i < l.length := by
  rcases Nat.lt_or_ge i l.length with z | z
  · exact z
  · rw [List.getElem?_eq_none z] at h; cases h
theorem draw {T : List Def} {k f i : Nat} {s : Sto} {n m : Int} (hT : T[f]? = some Draw) (hp : Pen s i n) (hn : n < 1000000000000000000) (h1 : 0 < m) (h2 : m < 1073741824) :
    ∃ d s', callN T (k + 1) f [.loc i, .int m] s = .ok (.val (.int d)) s' ∧ 0 ≤ d ∧ d < m ∧ Pen s' i (n + 1) ∧ s'.length = s.length := by
  obtain ⟨a, b, c, hs, ha, hb, hb2, hc, hc2⟩ := hp
  have hi := lt_of_get hs
  rw [callN_eq hT]
  by_cases h0 : 0 < a
  · refine ⟨a % m, s.set i [.int (a / m), .int b, .int c], ?_, Int.emod_nonneg _ (by omega), Int.emod_lt_of_pos _ h1, ⟨a / m, b, c, List.getElem?_set_self hi, Int.ediv_nonneg ha (by omega), hb, hb2, hc, by omega⟩, List.length_set ..⟩
    simp -implicitDefEqProofs [runD, Draw, hs, atI3, h0, b_mod h1, b_fdiv h1 h2, ixN3]
  · generalize e1 : (b + 17 * (c + 1)) * (69621 + 2 * (c + 1)) % 2147483647 = x1
    generalize e2 : (x1 * x1 + 40503 * (c + 1) + 5) % 2147483629 = x2
    have b1 : 0 ≤ x1 := by rw [← e1]; exact Int.emod_nonneg _ (by decide)
    have b2 : x1 < 2147483647 := by rw [← e1]; exact Int.emod_lt_of_pos _ (by decide)
    have b3 : 0 ≤ x2 := by rw [← e2]; exact Int.emod_nonneg _ (by decide)
    have b4 : x2 < 2147483629 := by rw [← e2]; exact Int.emod_lt_of_pos _ (by decide)
    refine ⟨x2 * 48271 % 2147483647 / 32 % m, s.set i [.int a, .int b, .int (c + 1)], ?_, Int.emod_nonneg _ (by omega), Int.emod_lt_of_pos _ h1, ⟨a, b, c + 1, List.getElem?_set_self hi, ha, hb, hb2, by omega, by omega⟩, List.length_set ..⟩
    have c1 : (-18446744073709551616 < b + 17 * (c + 1) ∧ b + 17 * (c + 1) < 18446744073709551616) := by omega
    have c2 : (-18446744073709551616 < x1 ∧ x1 < 18446744073709551616) := by omega
    have c3 : (-18446744073709551616 < x2 ∧ x2 < 18446744073709551616) := by omega
    have m1 : ∀ {z : Int}, binop .mul (.int 17) (.int z) = some (.val (.int (17 * z))) := b_mul (.inl (by decide))
    have m2 : ∀ {z : Int}, binop .mul (.int 2) (.int z) = some (.val (.int (2 * z))) := b_mul (.inl (by decide))
    have m3 : ∀ {z : Int}, binop .mul (.int 40503) (.int z) = some (.val (.int (40503 * z))) := b_mul (.inl (by decide))
    have m4 : ∀ {z : Int}, binop .mul (.int z) (.int 48271) = some (.val (.int (z * 48271))) := b_mul (.inr (by decide))
    have d1 : ∀ {z : Int}, binop .mod (.int z) (.int 2147483647) = some (.val (.int (z % 2147483647))) := b_mod (by decide)
    have d2 : ∀ {z : Int}, binop .mod (.int z) (.int 2147483629) = some (.val (.int (z % 2147483629))) := b_mod (by decide)
    have d3 : ∀ {z : Int}, binop .fdiv (.int z) (.int 32) = some (.val (.int (z / 32))) := b_fdiv (by decide) (by decide)
    have hset : ∀ l : List Val, (s.set i l)[i]? = some l := fun l => List.getElem?_set_self hi
    simp -implicitDefEqProofs [runD, Draw, hs, atI3, h0, b_mod h1, ixN3, hset, m1, m2, m3, m4, d1, d2, d3, b_mul (j := 69621 + 2 * (c + 1)) (.inl c1), e1, b_mul (j := x1) (.inl c2), e2]
end Gz
/-! Loops; the small defs that all laws share. -/
namespace Gz
open PySem L2
theorem ev_lc (F : FT) (it : CI) (tg : List Nat) (cond : CO) (elt : CE) (r : Rho) (s : Sto) : evE F (.lc it tg cond elt) r s = (evI F it r s).bind fun xs r s => (noExc (lcLoop (turnF F tg cond elt) xs [] (wipeR r tg) s)).bind fun ys r s => .ok (.fr ys) r s := by
  rw [evE]; rfl
theorem ex_for (F : FT) (tg : List Nat) (it : CI) (b : CSs) (r : Rho) (s : Sto) : exS F (.for_ tg it b) r s = (evI F it r s).bind fun xs r s => forLoop (turnB F tg b) xs r s := by
  rw [exS]; rfl
theorem forInv {f : Val → Rho → Sto → Rs Fl} {I : Nat → Rho → Sto → Prop} : ∀ (xs ys : List Val) {r : Rho} {s : Sto} (_ : I ys.length r s) (_ : ∀ (j : Nat) (x : Val) (r : Rho) (s : Sto), (ys ++ xs)[j]? = some x → I j r s → ∃ r' s', f x r s = .ok .next r' s' ∧ I (j + 1) r' s'), ∃ r' s', forLoop f xs r s = .ok .next r' s' ∧ I (ys ++ xs).length r' s'
  | [], ys, r, s, h0, _ => ⟨r, s, by rw [forLoop], by rw [List.append_nil]; exact h0⟩
  | x :: xs, ys, r, s, h0, hs => by
    obtain ⟨r1, s1, e, h1⟩ := hs ys.length x r s (by rw [List.getElem?_append_right (Nat.le_refl _)]; simp) h0
    have e2 : ys ++ x :: xs = (ys ++ [x]) ++ xs := by simp
    obtain ⟨r2, s2, e3, h2⟩ := forInv xs (ys ++ [x]) (r := r1) (s := s1) (by simpa using h1) (by rw [← e2]; exact hs)
    exact ⟨r2, s2, by rw [forLoop, e]; exact e3, by rw [e2]; exact h2⟩
/-- a loop that goes on to its end -/
theorem for_ok {f : Val → Rho → Sto → Rs Fl} (I : Nat → Rho → Sto → Prop) {xs : List Val} {r : Rho} {s : Sto} (h0 : I 0 r s) (hs : ∀ (j : Nat) (x : Val) (r : Rho) (s : Sto), xs[j]? = some x → I j r s → ∃ r' s', f x r s = .ok .next r' s' ∧ I (j + 1) r' s') : ∃ r' s', forLoop f xs r s = .ok .next r' s' ∧ I xs.length r' s' :=
  forInv xs [] h0 hs
def addO (acc : List Val) : Option Val → List Val
  | some y => acc ++ [y]
  | none => acc
theorem lcInv {f : Val → Rho → Sto → Rs (Option Val)} {I : Nat → List Val → Rho → Sto → Prop} : ∀ (xs ys acc : List Val) {r : Rho} {s : Sto} (_ : I ys.length acc r s) (_ : acc.length ≤ ys.length) (_ : (ys ++ xs).length ≤ sizeLine)
    (_ : ∀ (j : Nat) (x : Val) (acc : List Val) (r : Rho) (s : Sto), (ys ++ xs)[j]? = some x → I j acc r s → ∃ o r' s', f x r s = .ok o r' s' ∧ I (j + 1) (addO acc o) r' s'), ∃ acc' r' s', lcLoop f xs acc r s = .ok acc' r' s' ∧ I (ys ++ xs).length acc' r' s'
  | [], ys, acc, r, s, h0, _, _, _ => ⟨acc, r, s, by rw [lcLoop], by rw [List.append_nil]; exact h0⟩
  | x :: xs, ys, acc, r, s, h0, hl, hz, hs => by
    obtain ⟨o, r1, s1, e, h1⟩ := hs ys.length x acc r s (by rw [List.getElem?_append_right (Nat.le_refl _)]; simp) h0
    have e2 : ys ++ x :: xs = (ys ++ [x]) ++ xs := by simp
    have la : (addO acc o).length ≤ (ys ++ [x]).length := by
      cases o with
      | none => simp [addO]; omega
      | some y => simp [addO]; omega
    obtain ⟨acc2, r2, s2, e3, h2⟩ := lcInv xs (ys ++ [x]) (addO acc o) (r := r1) (s := s1) (by simpa using h1) la (by rw [← e2]; exact hz) (by rw [← e2]; exact hs)
    refine ⟨acc2, r2, s2, ?_, by rw [e2]; exact h2⟩
    rw [lcLoop, e, bind_ok]
    cases o with
    | none => exact e3
    | some y =>
      have : acc.length < sizeLine := by
        rw [e2] at hz
        simp at hz
        omega
      show (if acc.length < sizeLine then _ else _) = _
      rw [if_pos this]
      exact e3
/-- a comprehension, by its turns -/
theorem lc_ok {f : Val → Rho → Sto → Rs (Option Val)} (I : Nat → List Val → Rho → Sto → Prop) {xs : List Val} {r : Rho} {s : Sto} (h0 : I 0 [] r s) (hz : xs.length ≤ sizeLine)
    (hs : ∀ (j : Nat) (x : Val) (acc : List Val) (r : Rho) (s : Sto), xs[j]? = some x → I j acc r s → ∃ o r' s', f x r s = .ok o r' s' ∧ I (j + 1) (addO acc o) r' s') : ∃ acc r' s', lcLoop f xs [] r s = .ok acc r' s' ∧ I xs.length acc r' s' :=
  lcInv xs [] [] h0 (Nat.le_refl _) hz hs
/-- .. that changes nothing -/
theorem lc_map {f : Val → Rho → Sto → Rs (Option Val)} {g : Val → Val} {r : Rho} {s : Sto} : ∀ {xs : List Val} (acc : List Val), acc.length + xs.length ≤ sizeLine → (∀ x ∈ xs, f x r s = .ok (some (g x)) r s) → lcLoop f xs acc r s = .ok (acc ++ xs.map g) r s
  | [], acc, _, _ => by rw [lcLoop]; simp
  | x :: xs, acc, hz, h => by
    rw [lcLoop, h x List.mem_cons_self, bind_ok]
    simp only [List.length_cons] at hz
    show (if acc.length < sizeLine then _ else _) = _
    rw [if_pos (by omega), lc_map (acc ++ [g x]) (by simp; omega) fun y hy => h y (List.mem_cons_of_mem _ hy)]
    simp
theorem lc_filter {f : Val → Rho → Sto → Rs (Option Val)} {p : Val → Bool} {g : Val → Val} {r : Rho} {s : Sto} : ∀ {xs : List Val} (acc : List Val), acc.length + xs.length ≤ sizeLine → (∀ x ∈ xs, f x r s = .ok (if p x then some (g x) else none) r s) → lcLoop f xs acc r s = .ok (acc ++ (xs.filter p).map g) r s
  | [], acc, _, _ => by rw [lcLoop]; simp
  | x :: xs, acc, hz, h => by
    rw [lcLoop, h x List.mem_cons_self, bind_ok]
    simp only [List.length_cons] at hz
    cases hp : p x with
    | true =>
      show (if acc.length < sizeLine then _ else _) = _
      rw [if_pos (by omega), lc_filter (acc ++ [g x]) (by simp; omega) fun y hy => h y (List.mem_cons_of_mem _ hy), List.filter_cons_of_pos hp]
      simp
    | false =>
      show lcLoop f xs acc r s = _
      rw [lc_filter acc (by omega) fun y hy => h y (List.mem_cons_of_mem _ hy), List.filter_cons_of_neg (by simp [hp])]
theorem atI_ok {xs : List Val} {d : Int} (h1 : 0 ≤ d) (h2 : d < xs.length) : ∃ v, atI xs d = some v ∧ xs[d.toNat]? = some v := by
  have hl : d.toNat < xs.length := by omega
  refine ⟨xs[d.toNat], ?_, List.getElem?_eq_getElem hl⟩
  have e := atI_nat (xs := xs) (j := d.toNat) (List.getElem?_eq_getElem hl)
  rw [Int.toNat_of_nonneg h1] at e
  exact e
/-! ### pick, mixed -/
def PickD (nd : Nat) : Def := ⟨2, 2, (.cons (.ret (.idxV 1 (.call nd (.cons (.var 0) (.cons (.bltV .len 1) .nil))))) .nil)⟩
theorem pick {T : List Def} {k f nd i : Nat} {s : Sto} {n : Int} {xs : List Val} (hT : T[f]? = some (PickD nd)) (hD : T[nd]? = some Draw) (hp : Pen s i n) (hn : n < 1000000000000000000) (h1 : xs ≠ []) (h2 : xs.length < 1073741824) :
    ∃ v s', callN T (k + 2) f [.loc i, .lst xs] s = .ok (.val v) s' ∧ v ∈ xs ∧ Pen s' i (n + 1) ∧ s'.length = s.length := by
  have hl : 0 < xs.length := List.length_pos_iff.mpr h1
  obtain ⟨d, s', e, d1, d2, p, ln⟩ := draw (k := k) hD hp hn (m := xs.length) (by omega) (by omega)
  obtain ⟨v, e1, e2⟩ := atI_ok d1 d2
  refine ⟨v, s', ?_, List.mem_of_getElem? e2, p, ln⟩
  rw [callN_eq hT]
  simp -implicitDefEqProofs [runD, PickD, e, e1]
def MixF (nd : Nat) : CS := .for_ [4] (.rng .no (.bltV .len 1)) (.cons (.exp (.app 3 (.popAt 2 (.call nd (.cons (.var 0) (.cons (.bltV .len 2) .nil)))))) .nil)
def MixD (nd : Nat) : Def := ⟨2, 5, (.cons (.par [2, 3] (.cons (.bltV .list 1) (.cons (.lst .nil) .nil))) (.cons (MixF nd) (.cons (.retV 3) .nil)))⟩
theorem erase_perm {xs : List Val} {j : Nat} {v : Val} (h : xs[j]? = some v) : (xs.eraseIdx j ++ [v]).Perm xs := by
  obtain ⟨hl, rfl⟩ := List.getElem?_eq_some_iff.mp h
  rw [List.eraseIdx_eq_take_drop_succ]
  conv => rhs; rw [← List.take_append_drop j xs, List.drop_eq_getElem_cons hl]
  rw [List.append_assoc]
  exact List.Perm.append_left _ List.perm_append_comm
theorem rng_small {n : Int} (h1 : 0 ≤ n) (h2 : n < 1000000000) : rngOk 0 n = true := by
  unfold rngOk
  rw [decide_eq_true_eq]
  refine ⟨by decide, by decide, ?_, ?_⟩
  · exact Int.le_trans (by decide) h1
  · exact Int.lt_of_lt_of_le h2 (by decide)
theorem small_line {n : Nat} (h : n < 1000000) : n < sizeLine := Nat.lt_of_lt_of_le h (by decide)
/-- one turn of mixed -/
theorem mixTurn {T : List Def} {k nd i : Nat} {s : Sto} {n : Int} {v x : Val} {y : Option Slot} {rest found : List Val} (hD : T[nd]? = some Draw) (hp : Pen s i n) (hn : n < 1000000000000000000) (hr : 0 < rest.length) (hr2 : rest.length < 10000) (hf : found.length < sizeLine) :
    ∃ j u s', turnB (callN T (k + 1)) [4] (.cons (.exp (.app 3 (.popAt 2 (.call nd (.cons (.var 0) (.cons (.bltV .len 2) .nil)))))) .nil) x [some (.val (.loc i)), some (.val v), some (.own rest), some (.own found), y] s = .ok .next [some (.val (.loc i)), some (.val v), some (.own (rest.eraseIdx j)), some (.own (found ++ [u])), some (.val x)] s' ∧
      rest[j]? = some u ∧ Pen s' i (n + 1) ∧ s'.length = s.length := by
  obtain ⟨d, s2, e, d1, d2, p, ln2⟩ := draw (k := k) hD hp hn (m := rest.length) (by omega) (by omega)
  obtain ⟨u, e1, e2⟩ := atI_ok d1 d2
  have d3 : d < 9223372036854775808 := by omega
  refine ⟨d.toNat, u, s2, ?_, e2, p, ln2⟩
  simp -implicitDefEqProofs [turnB, e, d1, d3, e2, hf]
theorem mixed {T : List Def} {k f nd i : Nat} {s : Sto} {n : Int} {v : Val} {xs : List Val} (hv : v = .lst xs ∨ v = .tup xs) (hT : T[f]? = some (MixD nd)) (hD : T[nd]? = some Draw) (hp : Pen s i n) (hn : n + xs.length < 1000000000000000000) (h2 : xs.length < 10000) :
    ∃ ys s', callN T (k + 2) f [.loc i, v] s = .ok (.fr ys) s' ∧ ys.Perm xs ∧ Pen s' i (n + xs.length) ∧ s'.length = s.length := by
  have loop : ∃ r' s', exS (callN T (k + 1)) (MixF nd) [some (.val (.loc i)), some (.val v), some (.own xs), some (.own []), none] s = .ok .next r' s' ∧ (∃ rest found x, r' = [some (.val (.loc i)), some (.val v), some (.own rest), some (.own found), x] ∧ rest.length + xs.length = xs.length ∧ (rest ++ found).Perm xs ∧ Pen s' i (n + xs.length) ∧ s'.length = s.length) := by
    unfold MixF
    rw [ex_for]
    have e1 : evI (callN T (k + 1)) (.rng .no (.bltV .len 1)) [some (.val (.loc i)), some (.val v), some (.own xs), some (.own []), none] s = .ok ((rngI 0 xs.length).map .int) [some (.val (.loc i)), some (.val v), some (.own xs), some (.own []), none] s := by
      have := rng_small (n := (xs.length : Int)) (by omega) (by omega)
      rcases hv with rfl | rfl <;> simp -implicitDefEqProofs [this]
    rw [e1, bind_ok]
    have len : ((rngI 0 (xs.length : Int)).map Val.int).length = xs.length := by unfold rngI; simp
    obtain ⟨r', s', e2, I⟩ := for_ok (f := turnB (callN T (k + 1)) [4] (.cons (.exp (.app 3 (.popAt 2 (.call nd (.cons (.var 0) (.cons (.bltV .len 2) .nil)))))) .nil))
      (fun j r s' => ∃ rest found x, r = [some (.val (.loc i)), some (.val v), some (.own rest), some (.own found), x] ∧ rest.length + j = xs.length ∧ (rest ++ found).Perm xs ∧ Pen s' i (n + j) ∧ s'.length = s.length) (xs := (rngI 0 (xs.length : Int)).map Val.int) (r := [some (.val (.loc i)), some (.val v), some (.own xs), some (.own []), none]) (s := s)
      ⟨xs, [], none, rfl, by simp, by simp, by simpa using hp, rfl⟩ (fun j x r s1 hx hI => by
        obtain ⟨rest, found, y, rfl, l1, pm, pn, ln⟩ := hI
        have hj : j < xs.length := by rw [← len]; exact lt_of_get hx
        have lf : rest.length + found.length = xs.length := by rw [← List.length_append]; exact pm.length_eq
        obtain ⟨jj, u, s2, e, e2, p, ln2⟩ := mixTurn (k := k) (v := v) (x := x) (y := y) (rest := rest) (found := found) hD pn (by omega) (by omega) (by omega) (small_line (by omega))
        refine ⟨_, s2, e, rest.eraseIdx jj, found ++ [u], some (.val x), rfl, ?_, ?_, ?_, ln2.trans ln⟩
        · have := lt_of_get e2
          rw [List.length_eraseIdx, if_pos this]; omega
        · have h1 : (rest.eraseIdx jj ++ (found ++ [u])).Perm (rest.eraseIdx jj ++ ([u] ++ found)) := List.perm_append_comm.append_left _
          rw [← List.append_assoc _ [u] found] at h1
          exact (h1.trans ((erase_perm e2).append_right found)).trans pm
        · have : n + (j + 1 : Nat) = n + j + 1 := by omega
          rw [this]; exact p)
    rw [len] at I
    exact ⟨r', s', e2, I⟩
  obtain ⟨r', s', e, rest, found, x, rfl, l1, pm, pn, ln⟩ := loop
  have : rest = [] := List.length_eq_zero_iff.mp (by omega)
  subst this
  refine ⟨found, s', ?_, by simpa using pm, pn, ln⟩
  rw [callN_eq hT]
  rcases hv with rfl | rfl <;> simp -implicitDefEqProofs [runD, MixD, e]
end Gz
/-! Slices; the shared defs again: a pen is made, a cell is read, whole numbers, showing alike. -/
namespace Gz
open PySem L2
/-- a Nat's place -/
theorem toNat_of {a : Int} (h : 0 ≤ a) : ∃ n : Nat, a = n := ⟨a.toNat, by omega⟩
theorem cut_lo (xs : List Val) (n : Nat) : cut xs (some (n : Int)) none = xs.drop n := by
  unfold cut
  rw [HT.sIx_nat, HT.sIx_none]
  by_cases h : n ≤ xs.length
  · rw [Nat.min_eq_left h]
    exact List.take_of_length_le (by rw [List.length_drop]; exact Nat.le_refl _)
  · rw [Nat.min_eq_right (by omega), List.drop_length, List.drop_of_length_le (by omega), List.take_nil]
theorem cut_hi (xs : List Val) (n : Nat) : cut xs none (some (n : Int)) = xs.take n := by
  unfold cut
  rw [HT.sIx_nat, HT.sIx_none, List.drop_zero, Nat.sub_zero]
  by_cases h : n ≤ xs.length
  · rw [Nat.min_eq_left h]
  · rw [Nat.min_eq_right (by omega), List.take_length, List.take_of_length_le (by omega)]
theorem cut_one (xs : List Val) (n : Nat) (h : n < xs.length) : cut xs (some (n : Int)) (some ((n : Int) + 1)) = [xs[n]] := by
  unfold cut
  have e : ((n : Int) + 1) = ((n + 1 : Nat) : Int) := by omega
  rw [e, HT.sIx_nat, HT.sIx_nat, Nat.min_eq_left (by omega), Nat.min_eq_left (by omega)]
  rw [List.drop_eq_getElem_cons h]
  have : n + 1 - n = 1 := by omega
  rw [this]; rfl
theorem cut_lo1 (xs : List Val) (n : Nat) : cut xs (some ((n : Int) + 1)) none = xs.drop (n + 1) := by
  have e : ((n : Int) + 1) = ((n + 1 : Nat) : Int) := by omega
  rw [e, cut_lo]
theorem cut_hi1 (xs : List Val) (n : Nat) : cut xs none (some (1 + (n : Int))) = xs.take (n + 1) := by
  have e : (1 + (n : Int)) = ((n + 1 : Nat) : Int) := by omega
  rw [e, cut_hi]
theorem drop_wt {xs : List Val} {n : Nat} (h : n < xs.length) : wts (xs.take n) + (wt xs[n] + 2) + wts (xs.drop (n + 1)) = wts xs := by
  have := wts_split xs n
  rw [List.drop_eq_getElem_cons h, wts] at this
  omega
/-! ### the defs -/
def PenD : Def := ⟨1, 1, (.cons (.ret (.lstL (.cons (.blt .max2 (.cons (.cst (.int 0)) (.cons (.bin .sub (.var 0) (.bin .pow (.cst (.int 10)) (.cst (.int 18)))) .nil))) (.cons (.bin .mod (.var 0) (.cst (.int 1000000007))) (.cons (.cst (.int 0)) .nil))))) .nil)⟩
theorem pen {T : List Def} {k f : Nat} {s : Sto} {z : Int} (hT : T[f]? = some PenD) : ∃ s', callN T (k + 1) f [.int z] s = .ok (.val (.loc s.length)) s' ∧ Pen s' s.length 0 ∧ s'.length = s.length + 1 := by
  have p1 : binop .pow (.int 10) (.int 18) = some (.val (.int 1000000000000000000)) := by
    rw [b_pow ⟨by decide, by decide, by decide⟩]
    exact congrArg (fun z => some (Rv.val (Val.int z))) (by decide)
  have p2 : binop .mod (.int z) (.int 1000000007) = some (.val (.int (z % 1000000007))) := b_mod (by decide)
  have l3 : (3 : Nat) ≤ sizeLine := by decide
  refine ⟨s ++ [[.int (if z - 1000000000000000000 > 0 then z - 1000000000000000000 else 0), .int (z % 1000000007), .int 0]], ?_, ⟨if z - 1000000000000000000 > 0 then z - 1000000000000000000 else 0, z % 1000000007, 0, List.getElem?_concat_length, ?_, Int.emod_nonneg _ (by decide), Int.emod_lt_of_pos _ (by decide), by decide, by decide⟩, by simp⟩
  · rw [callN_eq hT]
    simp -implicitDefEqProofs [runD, PenD, p1, p2, l3]
  · split <;> omega
def CellD : Def := ⟨2, 2, (.cons (.ifs (.cmp .lt (.var 1) (.bltV .len 0)) (.cons (.ret (.idxV 0 (.var 1))) .nil) .nil) (.cons (.ret (.cst (.int 0))) .nil))⟩
theorem cell {T : List Def} {k f : Nat} {s : Sto} {ns : List Int} {j : Nat} (hT : T[f]? = some CellD) : ∃ z, callN T (k + 1) f [.fz ns, .int j] s = .ok (.val (.int z)) s := by
  rw [callN_eq hT]
  by_cases h : (j : Int) < ns.length
  · have hj : j < ns.length := by omega
    have e := atI_nat (xs := ns) (j := j) (List.getElem?_eq_getElem hj)
    exact ⟨ns[j], by simp -implicitDefEqProofs [runD, CellD, h, hj, e]⟩
  · have hj : ¬ j < ns.length := by omega
    exact ⟨0, by simp -implicitDefEqProofs [runD, CellD, h, hj]⟩
/-- a whole number in bounds -/
def isW (lo hi : Int) : Val → Bool
  | .int i => decide (lo ≤ i) && decide (i ≤ hi)
  | _ => false
def WholeD : Def := ⟨3, 3, (.cons (.ret (.and (.isiV 0 "int") (.and (.not (.isiV 0 "bool")) (.chn .le .le (.var 1) (.var 0) (.var 2))))) .nil)⟩
theorem whole {T : List Def} {k f : Nat} {s : Sto} {v : Val} {lo hi : Int} (hT : T[f]? = some WholeD) (hv : fine v = true) : callN T (k + 1) f [v, .int lo, .int hi] s = .ok (.val (.bl (isW lo hi v))) s := by
  rw [callN_eq hT]
  cases v with
  | int i =>
    by_cases h : lo ≤ i <;> simp -implicitDefEqProofs [runD, WholeD, isiv, isW, h]
  | fz => simp [fine] at hv
  | loc => simp [fine] at hv
  | fn => simp [fine] at hv
  | _ => simp -implicitDefEqProofs [runD, WholeD, isiv, isW]
def SameD : Def := ⟨2, 2, (.cons (.ret (.cmp .eq (.bltV .repr 0) (.bltV .repr 1))) .nil)⟩
theorem same {T : List Def} {k f : Nat} {s : Sto} {v w : Val} {x y : Str} (hT : T[f]? = some SameD) (hv : fine v = true) (hw : fine w = true) (h1 : rep v = some x) (h2 : rep w = some y) : callN T (k + 1) f [v, w] s = .ok (.val (.bl (x == y))) s := by
  rw [callN_eq hT]
  have d1 : ∀ s, deref v s = some v := fun s => by cases v <;> first | rfl | simp [fine] at hv
  have d2 : ∀ s, deref w s = some w := fun s => by cases w <;> first | rfl | simp [fine] at hw
  simp -implicitDefEqProofs [-deref, runD, SameD, d1, d2, h1, h2]
theorem deref_fine {v : Val} (hv : fine v = true) (s : Sto) : deref v s = some v := by cases v <;> first | rfl | simp [fine] at hv
end Gz
namespace Gz
open PySem L2
def OddD (np : Nat) : Def := ⟨1, 2,
    (.cons (.asg 1 (.lst (.cons (.cst (.non)) (.cons (.cst (.bl true)) (.cons (.cst (.bl false)) (.cons (.neg (.cst (.int 1))) (.cons (.cst (.int 0)) (.cons (.cst (.int 1)) (.cons (.cst (.int 4)) (.cons (.cst (.int 16)) (.cons (.cst (.int 100)) (.cons (.bin .pow (.cst (.int 10)) (.cst (.int 12))) (.cons (.cst (.str "")) (.cons (.cst (.str "rule")) (.cons (.tup .nil) (.cons (.lst .nil) (.cons (.dct []) (.cons (.tup (.cons (.cst (.int 0)) .nil)) (.cons (.lst (.cons (.cst (.int 0)) .nil)) (.cons (.tup (.cons (.tup (.cons (.cst (.int 0)) .nil)) (.cons (.cst (.int 0)) .nil))) (.cons (.dct [(.inl 0, .int 1)]) .nil)))))))))))))))))))))
    (.cons (.ret (.call np (.cons (.var 0) (.cons (.bin .add (.var 1) (.lst (.cons (.tup (.cons (.cst (.int 0)) (.cons (.cst (.int 1)) .nil))) (.cons (.tup (.cons (.neg (.cst (.int 1))) (.cons (.neg (.cst (.int 1))) .nil))) (.cons (.tup (.cons (.tup .nil) (.cons (.cst (.int 0)) .nil))) .nil))))) .nil))))
    .nil))⟩
def BentD (nw nd np no nb : Nat) : Def := ⟨3, 5,
    (.cons (.ifs (.and (.call nw (.cons (.var 1) (.cons (.neg (.cst (.int 1))) (.cons (.cst (.int 99)) .nil)))) (.cmp .gt (.call nd (.cons (.var 0) (.cons (.cst (.int 3)) .nil))) (.cst (.int 0))))
    (.cons (.ret (.call np (.cons (.var 0) (.cons (.lst (.cons (.bin .add (.var 1) (.cst (.int 1))) (.cons (.bin .sub (.var 1) (.cst (.int 1))) (.cons (.cst (.int 0)) (.cons (.cst (.int 15)) (.cons (.cst (.int 16)) (.cons (.cmp .eq (.var 1) (.cst (.int 1))) (.cons (.cst (.int 4)) (.cons (.var 1) .nil))))))))) .nil))))
    .nil)
    .nil)
    (.cons (.ifs (.or (.not (.isiV 1 "tuple")) (.or (.cmp .eq (.var 1) (.tup .nil)) (.cmp .eq (.var 2) (.cst (.int 0)))))
    (.cons (.ret (.call no (.cons (.var 0) .nil)))
    .nil)
    .nil)
    (.cons (.par [3, 4] (.cons (.call nd (.cons (.var 0) (.cons (.bltV .len 1) .nil))) (.cons (.call nd (.cons (.var 0) (.cons (.cst (.int 9)) .nil))) .nil)))
    (.cons (.ifs (.cmp .eq (.var 4) (.cst (.int 0)))
    (.cons (.ret (.bin .add (.bin .add (.slc (.var 1) .no (.so (.var 3))) (.tup (.cons (.call no (.cons (.var 0) .nil)) .nil))) (.slc (.var 1) (.so (.var 3)) .no)))
    .nil)
    .nil)
    (.cons (.ifs (.cmp .eq (.var 4) (.cst (.int 1)))
    (.cons (.ret (.bin .add (.slc (.var 1) .no (.so (.var 3))) (.slc (.var 1) (.so (.bin .add (.var 3) (.cst (.int 1)))) .no)))
    .nil)
    .nil)
    (.cons (.ifs (.cmp .eq (.var 4) (.cst (.int 2)))
    (.cons (.ret (.call np (.cons (.var 0) (.cons (.lst (.cons (.bltV .list 1) (.cons (.rev (.var 1)) (.cons (.bin .add (.bin .add (.slc (.var 1) .no (.so (.var 3))) (.slc (.var 1) (.so (.var 3)) (.so (.bin .add (.var 3) (.cst (.int 1)))))) (.slc (.var 1) (.so (.var 3)) .no)) .nil)))) .nil))))
    .nil)
    .nil)
    (.cons (.ret (.bin .add (.bin .add (.slc (.var 1) .no (.so (.var 3))) (.tup (.cons (.call nb (.cons (.var 0) (.cons (.idxV 1 (.var 3)) (.cons (.bin .sub (.var 2) (.cst (.int 1))) .nil)))) .nil))) (.slc (.var 1) (.so (.bin .add (.var 3) (.cst (.int 1)))) .no)))
    .nil)))))))⟩
section
variable {T : List Def} {nw nd np no nb : Nat}
theorem le_line {n : Nat} (h : n ≤ 1000) : n ≤ sizeLine := Nat.le_trans h (by decide)
theorem le_line2 {n : Nat} (h : n ≤ 8000000) : n ≤ sizeLine := Nat.le_trans h (by decide)
theorem pow12 : binop .pow (.int 10) (.int 12) = some (.val (.int 1000000000000)) := by
  rw [b_pow ⟨by decide, by decide, by decide⟩]
  exact congrArg (fun z => some (Rv.val (Val.int z))) (by decide)
/-! ### odd values -/
def oddL : List Val := [.non, .bl true, .bl false, .int (-1), .int 0, .int 1, .int 4, .int 16, .int 100, .int 1000000000000, .str "", .str "rule", .tup [], .lst [], .dct [], .tup [.int 0], .lst [.int 0], .tup [.tup [.int 0], .int 0], .dct [(.inl 0, .int 1)], .tup [.int 0, .int 1], .tup [.int (-1), .int (-1)], .tup [.tup [], .int 0]]
theorem odd_ok : (oddL.all fun v => fine v && decide (dp v ≤ 2) && decide (wt v ≤ 5800)) = true := by decide +kernel
theorem odd_mem {v : Val} (h : v ∈ oddL) : fine v = true ∧ dp v ≤ 2 ∧ wt v ≤ 5800 := by
  have := List.all_eq_true.mp odd_ok v h
  simp only [Bool.and_eq_true, decide_eq_true_eq] at this
  exact ⟨this.1.1, this.1.2, this.2⟩
theorem odd (hD : T[nd]? = some Draw) (hP : T[np]? = some (PickD nd)) (hO : T[no]? = some (OddD np)) {k i : Nat} {s : Sto} {n : Int} (hp : Pen s i n) (hn : n < 1000000000000000000) : ∃ v s', callN T (k + 3) no [.loc i] s = .ok (.val v) s' ∧ fine v = true ∧ dp v ≤ 2 ∧ wt v ≤ 5800 ∧ Pen s' i (n + 1) ∧ s'.length = s.length := by
  obtain ⟨v, s', e, hv, p, l⟩ := pick (k := k) hP hD hp hn (xs := oddL) (by decide) (by decide)
  obtain ⟨h1, h2, h3⟩ := odd_mem hv
  refine ⟨v, s', ?_, h1, h2, h3, p, l⟩
  rw [callN_eq hO]
  unfold oddL at e
  have a1 : ∀ {xs ys : List Val}, xs.length + ys.length ≤ 100 → binop .add (.lst xs) (.lst ys) = some (.fr (xs ++ ys)) := fun h => b_addL (le_line (by omega))
  simp -implicitDefEqProofs [runD, OddD, le_line, pow12, a1, e]
/-! ### bent values -/
theorem bentI (hD : T[nd]? = some Draw) (hP : T[np]? = some (PickD nd)) {k i : Nat} {s : Sto} {n x : Int} (hp : Pen s i n) (hn : n < 1000000000000000000) (h1 : -1 ≤ x) (h2 : x ≤ 99) : ∃ w s', callN T (k + 2) np [.loc i, .lst [.int (x + 1), .int (x - 1), .int 0, .int 15, .int 16, .bl (x == 1), .int 4, .int x]] s = .ok (.val w) s' ∧ fine w = true ∧ dp w ≤ 0 ∧ wt w ≤ 1921 ∧ Pen s' i (n + 1) ∧ s'.length = s.length := by
  obtain ⟨v, s', e, hv, p, l⟩ := pick (k := k) hP hD hp hn (xs := [.int (x + 1), .int (x - 1), .int 0, .int 15, .int 16, .bl (x == 1), .int 4, .int x]) (by simp) (by simp)
  have fi : ∀ z : Int, -10 ≤ z → z ≤ 1000 → fine (.int z) = true ∧ dp (.int z) ≤ 0 ∧ wt (.int z) ≤ 1921 := fun z a b => ⟨by rw [fine]; exact decide_eq_true (small_int (by omega) (by omega)), Nat.le_refl _, Nat.le_refl _⟩
  have : fine v = true ∧ dp v ≤ 0 ∧ wt v ≤ 1921 := by
    simp only [List.mem_cons, List.not_mem_nil, or_false] at hv
    rcases hv with rfl | rfl | rfl | rfl | rfl | rfl | rfl | rfl
    · exact fi _ (by omega) (by omega)
    · exact fi _ (by omega) (by omega)
    · exact fi _ (by omega) (by omega)
    · exact fi _ (by omega) (by omega)
    · exact fi _ (by omega) (by omega)
    · exact ⟨rfl, Nat.le_refl _, by rw [wt]; decide⟩
    · exact fi _ (by omega) (by omega)
    · exact fi _ (by omega) (by omega)
  exact ⟨v, s', e, this.1, this.2.1, this.2.2, p, l⟩
theorem len_wts (xs : List Val) : 2 * xs.length ≤ wts xs := by
  induction xs with
  | nil => simp [wts]
  | cons x xs ih => rw [wts, List.length_cons]; omega
/-- what bent gives -/
def BentOk (s : Sto) (i : Nat) (n : Int) (d : Nat) (v : Val) (r : Fr) : Prop := ∃ w s', r = .ok (.val w) s' ∧ fine w = true ∧ dp w ≤ max (dp v) (3 + d) ∧ wt w ≤ 2 * wt v + 6000 ∧ Pen s' i (n + 4 * (d + 1)) ∧ s'.length = s.length
theorem Pen.le {s : Sto} {i : Nat} {n m : Int} (h : Pen s i n) (l : n ≤ m) : Pen s i m := by
  obtain ⟨a, b, c, h1, h2, h3, h4, h5, h6⟩ := h
  exact ⟨a, b, c, h1, h2, h3, h4, h5, by omega⟩
/-- an int in bounds -/
theorem bentA (hD : T[nd]? = some Draw) (hP : T[np]? = some (PickD nd)) (hW : T[nw]? = some WholeD) (hO : T[no]? = some (OddD np)) (hB : T[nb]? = some (BentD nw nd np no nb)) {k d i : Nat} {s : Sto} {n x : Int} (hp : Pen s i n) (hn : n + 10 < 1000000000000000000) (h1 : -1 ≤ x) (h2 : x ≤ 99) : BentOk s i n d (.int x) (callN T (k + 4) nb [.loc i, .int x, .int d] s) := by
  obtain ⟨q, s1, e1, q1, q2, p1, l1⟩ := draw (k := k + 2) hD hp (by omega) (m := 3) (by decide) (by decide)
  have fv : fine (.int x) = true := by rw [fine]; exact decide_eq_true (small_int (by omega) (by omega))
  have w1 := whole (k := k + 2) (s := s) hW (v := .int x) (lo := -1) (hi := 99) fv
  have iw : isW (-1) 99 (.int x) = true := by simp [isW, h1, h2]
  rw [iw] at w1
  by_cases hq : 0 < q
  · obtain ⟨w, s', e, f1, f2, f3, p, l⟩ := bentI hD hP (k := k + 1) p1 (by omega) h1 h2
    refine ⟨w, s', ?_, f1, by omega, by omega, p.le (by omega), by omega⟩
    rw [callN_eq hB]
    simp -implicitDefEqProofs [runD, BentD, w1, e1, hq, le_line, e]
  · obtain ⟨w, s', e, f1, f2, f3, p, l⟩ := odd hD hP hO (k := k) p1 (by omega)
    refine ⟨w, s', ?_, f1, by omega, by omega, p.le (by omega), by omega⟩
    rw [callN_eq hB]
    simp -implicitDefEqProofs [runD, BentD, w1, e1, hq, isiv, e]
/-- no tuple, or no depth -/
theorem bentB (hD : T[nd]? = some Draw) (hP : T[np]? = some (PickD nd)) (hW : T[nw]? = some WholeD) (hO : T[no]? = some (OddD np)) (hB : T[nb]? = some (BentD nw nd np no nb)) {k d i : Nat} {s : Sto} {n : Int} {v : Val} (hp : Pen s i n) (hn : n + 10 < 1000000000000000000) (hv : fine v = true) (hw : isW (-1) 99 v = false) (ht : (∀ xs, v ≠ .tup xs) ∨ v = .tup [] ∨ d = 0) : BentOk s i n d v (callN T (k + 4) nb [.loc i, v, .int d] s) := by
  have w1 := whole (k := k + 2) (s := s) hW (v := v) (lo := -1) (hi := 99) hv
  rw [hw] at w1
  obtain ⟨w, s', e, f1, f2, f3, p, l⟩ := odd hD hP hO (k := k) hp (by omega)
  refine ⟨w, s', ?_, f1, by omega, by omega, p.le (by omega), by omega⟩
  rw [callN_eq hB]
  cases v with
  | tup xs =>
    cases xs with
    | nil => simp -implicitDefEqProofs [runD, BentD, w1, isiv, e]
    | cons x r =>
      have d0 : d = 0 := by
        rcases ht with h | h | h
        · exact absurd rfl (h _)
        · cases h
        · exact h
      subst d0
      simp -implicitDefEqProofs [runD, BentD, w1, isiv, e]
  | fz => simp [fine] at hv
  | loc => simp [fine] at hv
  | fn => simp [fine] at hv
  | _ => simp -implicitDefEqProofs [runD, BentD, w1, isiv, e]
theorem fines_app {xs ys : List Val} : fines (xs ++ ys) = true ↔ fines xs = true ∧ fines ys = true := by
  rw [fines_iff, fines_iff, fines_iff]
  constructor
  · exact fun h => ⟨fun x hx => h x (List.mem_append_left _ hx), fun x hx => h x (List.mem_append_right _ hx)⟩
  · rintro ⟨h1, h2⟩ x hx
    exact (List.mem_append.mp hx).elim (h1 x) (h2 x)
theorem fines_sub {xs ys : List Val} (h : fines xs = true) (hs : ∀ y ∈ ys, y ∈ xs) : fines ys = true := fines_iff.mpr fun y hy => fines_iff.mp h y (hs y hy)
theorem dps_sub {xs ys : List Val} {n : Nat} (h : dps xs ≤ n) (hs : ∀ y ∈ ys, y ∈ xs) : dps ys ≤ n := dps_le.mpr fun y hy => dps_le.mp h y (hs y hy)
theorem dps_app {xs ys : List Val} {n : Nat} : dps (xs ++ ys) ≤ n ↔ dps xs ≤ n ∧ dps ys ≤ n := by
  rw [dps_le, dps_le, dps_le]
  constructor
  · exact fun h => ⟨fun x hx => h x (List.mem_append_left _ hx), fun x hx => h x (List.mem_append_right _ hx)⟩
  · rintro ⟨h1, h2⟩ x hx
    exact (List.mem_append.mp hx).elim (h1 x) (h2 x)
/-- a tuple with a part put in -/
theorem put_ok {xs ys : List Val} {a b : Nat} (hab : a ≤ b) (hx : fines xs = true) (hy : fines ys = true) : fine (.tup (xs.take a ++ ys ++ xs.drop b)) = true ∧ (∀ n, dps xs ≤ n → dps ys ≤ n → dp (.tup (xs.take a ++ ys ++ xs.drop b)) ≤ n + 1) ∧ wt (.tup (xs.take a ++ ys ++ xs.drop b)) ≤ wts xs + wts ys + 3 := by
  have m1 : ∀ y ∈ xs.take a, y ∈ xs := fun y h => List.mem_of_mem_take h
  have m2 : ∀ y ∈ xs.drop b, y ∈ xs := fun y h => List.mem_of_mem_drop h
  refine ⟨?_, fun n h1 h2 => ?_, ?_⟩
  · rw [fine, fines_app, fines_app]
    exact ⟨⟨fines_sub hx m1, hy⟩, fines_sub hx m2⟩
  · rw [dp]
    have := dps_app.mpr ⟨dps_app.mpr ⟨dps_sub h1 m1, h2⟩, dps_sub h1 m2⟩
    omega
  · rw [wt, wts_append, wts_append]
    have h1 := wts_split xs a
    have h2 : wts (xs.drop b) ≤ wts (xs.drop a) := by
      have : xs.drop b = (xs.drop a).drop (b - a) := by rw [List.drop_drop]; congr 1; omega
      rw [this]; exact wts_drop _ _
    omega
/-- a tuple, with depth -/
theorem bentC (hD : T[nd]? = some Draw) (hP : T[np]? = some (PickD nd)) (hW : T[nw]? = some WholeD) (hO : T[no]? = some (OddD np)) (hB : T[nb]? = some (BentD nw nd np no nb)) {k d i : Nat} {s : Sto} {n : Int} {x : Val} {r : List Val} (hp : Pen s i n) (hn : n + 4 * (d + 2) + 10 < 1000000000000000000) (hv : fines (x :: r) = true) (hw : wts (x :: r) ≤ 4000000)
    (ih : ∀ {s : Sto} {n : Int} {v : Val}, Pen s i n → n + 4 * (d + 1) + 10 < 1000000000000000000 → fine v = true → wt v ≤ 4000000 → BentOk s i n d v (callN T (k + 4) nb [.loc i, v, .int d] s)) :
    BentOk s i n (d + 1) (.tup (x :: r)) (callN T (k + 5) nb [.loc i, .tup (x :: r), .int ((d : Int) + 1)] s) := by
  have w1 := whole (k := k + 3) (s := s) hW (v := .tup (x :: r)) (lo := -1) (hi := 99) (by rw [fine]; exact hv)
  have iw : isW (-1) 99 (.tup (x :: r)) = false := rfl
  rw [iw] at w1
  have hl := len_wts (x :: r)
  have hl0 : 0 < (x :: r).length := by simp
  generalize hxs : x :: r = xs at *
  obtain ⟨q, s1, e1, q1, q2, p1, l1⟩ := draw (k := k + 3) hD hp (by omega) (m := xs.length) (by omega) (by omega)
  obtain ⟨y, s2, e2, y1, y2, p2, l2⟩ := draw (k := k + 3) hD p1 (by omega) (m := 9) (by decide) (by decide)
  obtain ⟨a, rfl⟩ := toNat_of q1
  have ha : a < xs.length := by omega
  have ne : xs.isEmpty = false := by subst hxs; rfl
  have nd : ¬ ((d : Int) + 1 = 0) := by omega
  have at1 : atI xs (a : Int) = some xs[a] := atI_nat (List.getElem?_eq_getElem ha)
  have ad : ∀ {us ws : List Val}, us.length + ws.length ≤ 5000000 → binop .add (.tup us) (.tup ws) = some (.val (.tup (us ++ ws))) := fun h => b_addT (le_line2 (by omega))
  have lt : (xs.take a).length = a := by rw [List.length_take]; omega
  have ld : (xs.drop a).length = xs.length - a := List.length_drop
  have ld1 : (xs.drop (a + 1)).length = xs.length - (a + 1) := List.length_drop
  have dx : dps xs + 1 = dp (.tup xs) := by rw [dp]
  have wx : wts xs + 3 = wt (.tup xs) := by rw [wt]
  by_cases c0 : y = 0
  · subst c0
    obtain ⟨w, s', e, f1, f2, f3, p, l⟩ := odd hD hP hO (k := k + 1) p2 (by omega)
    obtain ⟨g1, g2, g3⟩ := put_ok (xs := xs) (ys := [w]) (a := a) (b := a) (Nat.le_refl _) hv (by simp [fines, f1])
    refine ⟨_, s', ?_, g1, ?_, ?_, p.le (by omega), by omega⟩
    · rw [callN_eq hB]
      have b1 := ad (us := xs.take a) (ws := [w]) (by rw [lt]; simp; omega)
      have b2 := ad (us := xs.take a ++ [w]) (ws := xs.drop a) (by simp [lt, ld]; omega)
      simp -implicitDefEqProofs [runD, BentD, w1, isiv, ne, nd, e1, e2, e, cut_lo, cut_hi, le_line, b1, b2]
    · refine Nat.le_trans (g2 (max (dps xs) 2) (by omega) (by simp [dps]; omega)) (by omega)
    · refine Nat.le_trans g3 ?_
      simp [wts]; omega
  · by_cases c1 : y = 1
    · subst c1
      obtain ⟨g1, g2, g3⟩ := put_ok (xs := xs) (ys := []) (a := a) (b := a + 1) (by omega) hv rfl
      rw [List.append_nil] at g1 g2 g3
      refine ⟨_, s2, ?_, g1, ?_, ?_, p2.le (by omega), by omega⟩
      · rw [callN_eq hB]
        have b1 := ad (us := xs.take a) (ws := xs.drop (a + 1)) (by rw [lt, ld1]; omega)
        simp -implicitDefEqProofs [runD, BentD, w1, isiv, ne, nd, e1, e2, cut_lo1, cut_hi, b1]
      · refine Nat.le_trans (g2 (dps xs) (by omega) (Nat.zero_le _)) (by omega)
      · refine Nat.le_trans g3 ?_
        simp [wts]; omega
    · by_cases c2 : y = 2
      · subst c2
        obtain ⟨g1, g2, g3⟩ := put_ok (xs := xs) (ys := [xs[a]]) (a := a) (b := a) (Nat.le_refl _) hv (by simp [fines]; exact fines_iff.mp hv _ (List.getElem_mem ha))
        have wa := wt_mem (List.getElem_mem ha)
        have da := dps_le.mp (Nat.le_refl (dps xs)) _ (List.getElem_mem ha)
        obtain ⟨w, s', e, hm, p, l⟩ := pick (k := k + 2) hP hD p2 (by omega) (xs := [.lst xs, .tup xs.reverse, .tup (xs.take a ++ [xs[a]] ++ xs.drop a)]) (by simp) (by simp)
        have : fine w = true ∧ dp w ≤ dps xs + 1 ∧ wt w ≤ 2 * wts xs + 6 := by
          simp only [List.mem_cons, List.not_mem_nil, or_false] at hm
          rcases hm with rfl | rfl | rfl
          · exact ⟨by rw [fine]; exact hv, by rw [dp]; omega, by rw [wt]; omega⟩
          · refine ⟨by rw [fine]; exact fines_sub hv fun y h => List.mem_reverse.mp h, ?_, by rw [wt, wts_reverse]; omega⟩
            rw [dp]
            have := dps_sub (Nat.le_refl (dps xs)) fun y (h : y ∈ xs.reverse) => List.mem_reverse.mp h
            omega
          · refine ⟨g1, g2 (dps xs) (by omega) (by simp [dps]; omega), Nat.le_trans g3 ?_⟩
            simp [wts]; omega
        refine ⟨w, s', ?_, this.1, by omega, by omega, p.le (by omega), by omega⟩
        rw [callN_eq hB]
        have b1 := ad (us := xs.take a) (ws := [xs[a]]) (by rw [lt]; simp; omega)
        have b2 := ad (us := xs.take a ++ [xs[a]]) (ws := xs.drop a) (by simp [lt, ld]; omega)
        simp -implicitDefEqProofs [runD, BentD, w1, isiv, ne, nd, e1, e2, cut_lo, cut_hi, cut_one xs a ha, le_line, b1, b2, e, -List.append_assoc, -List.take_append_getElem]
      · have wa := wt_mem (List.getElem_mem ha)
        have da := dps_le.mp (Nat.le_refl (dps xs)) _ (List.getElem_mem ha)
        obtain ⟨w, s', e, f1, f2, f3, p, l⟩ := ih p2 (by omega) (v := xs[a]) (fines_iff.mp hv _ (List.getElem_mem ha)) (by omega)
        obtain ⟨g1, g2, g3⟩ := put_ok (xs := xs) (ys := [w]) (a := a) (b := a + 1) (by omega) hv (by simp [fines, f1])
        refine ⟨_, s', ?_, g1, ?_, ?_, p.le (by omega), by omega⟩
        · rw [callN_eq hB]
          have b1 := ad (us := xs.take a) (ws := [w]) (by rw [lt]; simp; omega)
          have b2 := ad (us := xs.take a ++ [w]) (ws := xs.drop (a + 1)) (by simp [lt, ld1]; omega)
          simp -implicitDefEqProofs [runD, BentD, w1, isiv, ne, nd, e1, e2, c0, c1, c2, at1, e, cut_lo1, cut_hi, le_line, b1, b2]
        · refine Nat.le_trans (g2 (max (dps xs) (3 + d)) (by omega) (by simp [dps]; omega)) (by omega)
        · rw [wt, wts_append, wts_append]
          have := drop_wt ha
          simp only [wts]
          omega
theorem bent (hD : T[nd]? = some Draw) (hP : T[np]? = some (PickD nd)) (hW : T[nw]? = some WholeD) (hO : T[no]? = some (OddD np)) (hB : T[nb]? = some (BentD nw nd np no nb)) : ∀ (d k : Nat) {i : Nat} {s : Sto} {n : Int} {v : Val}, Pen s i n → n + 4 * (d + 1) + 10 < 1000000000000000000 → fine v = true → wt v ≤ 4000000 → BentOk s i n d v (callN T (k + d + 4) nb [.loc i, v, .int d] s)
  | d, k, i, s, n, v, hp, hn, hv, hw => by
    by_cases h : isW (-1) 99 v = true
    · cases v with
      | int x =>
        simp only [isW, Bool.and_eq_true, decide_eq_true_eq] at h
        exact bentA hD hP hW hO hB (k := k + d) hp (by omega) h.1 h.2
      | _ => cases h
    · have h := Bool.eq_false_iff.mpr h
      by_cases ht : (∀ xs, v ≠ .tup xs) ∨ v = .tup [] ∨ d = 0
      · exact bentB hD hP hW hO hB (k := k + d) hp (by omega) hv h ht
      · simp only [not_or, Classical.not_forall, Classical.not_not] at ht
        obtain ⟨⟨xs, rfl⟩, h2, h3⟩ := ht
        cases xs with
        | nil => exact absurd rfl h2
        | cons x r =>
          cases d with
          | zero => exact absurd rfl h3
          | succ d =>
            have e : k + (d + 1) + 4 = (k + d) + 5 := by omega
            rw [e]
            rw [fine] at hv
            rw [wt] at hw
            exact bentC hD hP hW hO hB (k := k + d) hp (by omega) hv (by omega) fun p a b c => bent hD hP hW hO hB d k p a b c
end
end Gz
/-! Rules: the program's own tests, what they tell. -/
namespace Gz
open PySem L2
theorem ints_map (ns : List Int) : ints? (ns.map .int) = some ns := by
  induction ns with
  | nil => rfl
  | cons n ns ih => simp [ints?, ih]
theorem ints_eq : ∀ {xs : List Val} {ns : List Int}, ints? xs = some ns → xs = ns.map .int
  | [], _, h => by cases h; rfl
  | .int i :: r, ns, h => by
    rw [ints?] at h
    cases e : ints? r with
    | none => rw [e] at h; cases h
    | some ms =>
      rw [e] at h
      cases h
      rw [ints_eq e]; rfl
  | .non :: _, _, h => by cases h
  | .bl _ :: _, _, h => by cases h
  | .str _ :: _, _, h => by cases h
  | .tup _ :: _, _, h => by cases h
  | .lst _ :: _, _, h => by cases h
  | .fz _ :: _, _, h => by cases h
  | .dct _ :: _, _, h => by cases h
  | .loc _ :: _, _, h => by cases h
  | .fn _ :: _, _, h => by cases h
/-- whole numbers in bounds are ints -/
theorem allW : ∀ {xs : List Val} {lo hi : Int}, xs.all (isW lo hi) = true → ∃ ns : List Int, xs = ns.map .int ∧ ∀ n ∈ ns, lo ≤ n ∧ n ≤ hi
  | [], _, _, _ => ⟨[], rfl, by simp⟩
  | x :: xs, lo, hi, h => by
    rw [List.all_cons, Bool.and_eq_true] at h
    obtain ⟨ns, e, b⟩ := allW h.2
    cases x with
    | int i =>
      have hi' := h.1
      simp only [isW, Bool.and_eq_true, decide_eq_true_eq] at hi'
      refine ⟨i :: ns, by rw [e]; rfl, fun n hn => ?_⟩
      rcases List.mem_cons.mp hn with rfl | hn
      · exact hi'
      · exact b n hn
    | _ => cases h.1
theorem toDs_ints (ns : List Int) : toDs (ns.map .int) = some (ns.map PyData.int) := by
  induction ns with
  | nil => rfl
  | cons n ns ih => simp [toDs, toD, ih]
theorem lay_ints (ns : List Int) : PyData.canLayAll0 (ns.map PyData.int) = true ∧ PyData.depthAll (ns.map PyData.int) = 0 := by
  induction ns with
  | nil => exact ⟨rfl, rfl⟩
  | cons n ns ih => exact ⟨by rw [List.map_cons, PyData.canLayAll0, ih.1]; rfl, by rw [List.map_cons, PyData.depthAll, ih.2]; rfl⟩
theorem eqv_ints : ∀ as bs : List Int, PyData.eqvAll (as.map PyData.int) (bs.map PyData.int) = decide (as = bs)
  | [], [] => by simp [PyData.eqvAll]
  | [], _ :: _ => by simp [PyData.eqvAll]
  | _ :: _, [] => by simp [PyData.eqvAll]
  | a :: as, b :: bs => by
    rw [List.map_cons, List.map_cons, PyData.eqvAll, eqv_ints as bs, PyData.eqv]
    by_cases h : a = b <;> by_cases h2 : as = bs <;> simp [h, h2]
/-- two lists of ints -/
theorem eqq_ints (as bs : List Int) : eqq (.lst (as.map .int)) (.lst (bs.map .int)) = some (decide (as = bs)) := by
  unfold eqq
  by_cases h : as.length = bs.length
  · have e : shortEq (.lst (as.map .int)) (.lst (bs.map .int)) = none := by simp [shortEq, h]
    rw [e]
    dsimp only
    unfold dataEq
    have t1 : toD (.lst (as.map .int)) = some (.list (as.map PyData.int)) := by rw [toD, toDs_ints]; rfl
    have t2 : toD (.lst (bs.map .int)) = some (.list (bs.map PyData.int)) := by rw [toD, toDs_ints]; rfl
    rw [t1, t2]
    dsimp only
    have s1 : ∀ ns : List Int, SeqAt.shaped (.list (ns.map PyData.int)) = true := fun ns => by
      unfold SeqAt.shaped
      rw [PyData.canLay0, (lay_ints ns).1, PyData.depth, (lay_ints ns).2]; rfl
    rw [s1, s1, if_pos (by rfl), PyData.eqv, eqv_ints]
  · have e : shortEq (.lst (as.map .int)) (.lst (bs.map .int)) = some false := by simp [shortEq, h]
    rw [e]
    have : as ≠ bs := fun z => h (by rw [z])
    simp [this]
/-! ### orders -/
def isOrd (p : Int) : Val → Bool
  | .tup xs => match ints? xs with
    | some ns => ns.isPerm (rngI 0 p)
    | none => false
  | _ => false
theorem rng_pair (p : Int) : (rngI 0 p).Pairwise fun a b => (decide (a ≤ b)) = true := by
  unfold rngI
  rw [List.pairwise_map]
  refine List.Pairwise.imp (fun {a b} h => ?_) List.pairwise_lt_range
  simp; omega
theorem sort_rng (ns : List Int) (p : Int) : decide ((ns.mergeSort fun a b => decide (a ≤ b)) = rngI 0 p) = ns.isPerm (rngI 0 p) := by
  by_cases h : ns.Perm (rngI 0 p)
  · rw [List.isPerm_iff.mpr h]
    refine decide_eq_true ?_
    refine List.Perm.eq_of_pairwise (le := fun a b => decide (a ≤ b) = true) (fun a b _ _ h1 h2 => ?_) (List.pairwise_mergeSort (fun a b c h1 h2 => ?_) (fun a b => ?_) ns) (rng_pair p) ((List.mergeSort_perm ns _).trans h)
    · simp only [decide_eq_true_eq] at h1 h2; omega
    · simp only [decide_eq_true_eq] at h1 h2 ⊢; omega
    · simp only [Bool.or_eq_true, decide_eq_true_eq]; omega
  · have e : ns.isPerm (rngI 0 p) = false := Bool.eq_false_iff.mpr fun z => h (List.isPerm_iff.mp z)
    rw [e]
    refine decide_eq_false fun z => h ?_
    rw [← z]
    exact (List.mergeSort_perm ns _).symm
theorem rng_len0 (p : Int) : (rngI 0 p).length = p.toNat := by unfold rngI; simp
theorem rng_mem {p i : Int} : i ∈ rngI 0 p ↔ 0 ≤ i ∧ i < p := by
  unfold rngI
  rw [List.mem_map]
  constructor
  · rintro ⟨j, hj, rfl⟩
    have := List.mem_range.mp hj
    omega
  · intro h
    exact ⟨i.toNat, List.mem_range.mpr (by omega), by omega⟩
theorem ord_parts {p : Int} {ns : List Int} (h : ns.isPerm (rngI 0 p) = true) (hp : 0 ≤ p) : (ns.length : Int) = p ∧ ∀ n ∈ ns, 0 ≤ n ∧ n ≤ p - 1 := by
  have h := List.isPerm_iff.mp h
  refine ⟨by rw [h.length_eq, rng_len0]; omega, fun n hn => ?_⟩
  have := rng_mem.mp (h.mem_iff.mp hn)
  omega
theorem allW_of {ns : List Int} {lo hi : Int} (h : ∀ n ∈ ns, lo ≤ n ∧ n ≤ hi) : (ns.map Val.int).all (isW lo hi) = true := by
  rw [List.all_eq_true]
  intro x hx
  obtain ⟨n, hn, rfl⟩ := List.mem_map.mp hx
  simp [isW, h n hn]
/-- by length, bounds and sorting -/
theorem ord_sort {p : Int} {xs : List Val} (hp : 0 ≤ p) : isOrd p (.tup xs) = (decide ((xs.length : Int) = p) && (xs.all (isW 0 (p - 1)) && match ints? xs with
    | some ns => decide ((ns.mergeSort fun a b => decide (a ≤ b)) = rngI 0 p)
    | none => false)) := by
  rw [isOrd]
  cases e : ints? xs with
  | none =>
    dsimp only
    rw [Bool.and_false, Bool.and_false]
  | some ns =>
    dsimp only
    rw [sort_rng]
    obtain rfl := ints_eq e
    cases h : ns.isPerm (rngI 0 p) with
    | false => rw [Bool.and_false, Bool.and_false]
    | true =>
      obtain ⟨h1, h2⟩ := ord_parts h hp
      rw [allW_of h2, List.length_map, decide_eq_true h1]; rfl
theorem perm4 : ∀ a b c d : _root_.Fin 4, [(a.val : Int), b.val, c.val, d.val].isPerm (rngI 0 4) = (rngI 0 4).all fun i => [(a.val : Int), b.val, c.val, d.val].any (· == i) := by decide +kernel
theorem perm3 : ∀ a b c : _root_.Fin 3, [(a.val : Int), b.val, c.val].isPerm (rngI 0 3) = (rngI 0 3).all fun i => [(a.val : Int), b.val, c.val].any (· == i) := by decide +kernel
theorem perm2 : ∀ a b : _root_.Fin 2, [(a.val : Int), b.val].isPerm (rngI 0 2) = (rngI 0 2).all fun i => [(a.val : Int), b.val].any (· == i) := by decide +kernel
theorem perm1 : ∀ a : _root_.Fin 1, [(a.val : Int)].isPerm (rngI 0 1) = (rngI 0 1).all fun i => [(a.val : Int)].any (· == i) := by decide +kernel
theorem finOf {n : Int} {p : Nat} (h1 : 0 ≤ n) (h2 : n ≤ (p : Int) - 1) : ∃ f : _root_.Fin p, n = (f.val : Int) := ⟨⟨n.toNat, by omega⟩, by simp; omega⟩
theorem perm_all {p : Int} {ns : List Int} (h1 : 1 ≤ p) (h2 : p ≤ 4) (hl : (ns.length : Int) = p) (hb : ∀ n ∈ ns, 0 ≤ n ∧ n ≤ p - 1) : ns.isPerm (rngI 0 p) = (rngI 0 p).all fun i => ns.any (· == i) := by
  have hp : p = 1 ∨ p = 2 ∨ p = 3 ∨ p = 4 := by omega
  rcases hp with rfl | rfl | rfl | rfl
  · match ns, hl, hb with
    | [a], _, hb =>
      obtain ⟨f, rfl⟩ := finOf (p := 1) (hb a (by simp)).1 (hb a (by simp)).2
      exact perm1 f
  · match ns, hl, hb with
    | [a, b], _, hb =>
      obtain ⟨f, rfl⟩ := finOf (p := 2) (hb a (by simp)).1 (hb a (by simp)).2
      obtain ⟨g, rfl⟩ := finOf (p := 2) (hb b (by simp)).1 (hb b (by simp)).2
      exact perm2 f g
  · match ns, hl, hb with
    | [a, b, c], _, hb =>
      obtain ⟨f, rfl⟩ := finOf (p := 3) (hb a (by simp)).1 (hb a (by simp)).2
      obtain ⟨g, rfl⟩ := finOf (p := 3) (hb b (by simp)).1 (hb b (by simp)).2
      obtain ⟨h, rfl⟩ := finOf (p := 3) (hb c (by simp)).1 (hb c (by simp)).2
      exact perm3 f g h
  · match ns, hl, hb with
    | [a, b, c, d], _, hb =>
      obtain ⟨f, rfl⟩ := finOf (p := 4) (hb a (by simp)).1 (hb a (by simp)).2
      obtain ⟨g, rfl⟩ := finOf (p := 4) (hb b (by simp)).1 (hb b (by simp)).2
      obtain ⟨h, rfl⟩ := finOf (p := 4) (hb c (by simp)).1 (hb c (by simp)).2
      obtain ⟨i, rfl⟩ := finOf (p := 4) (hb d (by simp)).1 (hb d (by simp)).2
      exact perm4 f g h i
end Gz
/-! The program's tests of rules, run. -/
namespace Gz
open PySem L2
def isMove (p l : Int) : Val → Bool
  | .tup [a, b] => isOrd p a && isW 0 (l - 1) b
  | _ => false
def areMoves (p l : Int) : Val → Bool
  | .tup xs => decide ((xs.length : Int) = p) && xs.all (isMove p l)
  | _ => false
def isRow (p l : Int) : Val → Bool
  | .tup [h, o, c] => areMoves p l h && (isW 0 (p - 1) o && areMoves p l c)
  | _ => false
def isRule : Val → Bool
  | .tup [.int p, .tup rows] => (decide (1 ≤ p) && decide (p ≤ 4)) && ((decide (1 ≤ rows.length) && decide (rows.length ≤ 16)) && rows.all (isRow p rows.length))
  | _ => false
theorem bools_map (p : Val → Bool) (xs : List Val) : bools? (xs.map fun x => .bl (p x)) = some (xs.map p) := by
  induction xs with
  | nil => rfl
  | cons x xs ih => simp [bools?, ih]
theorem all_map (p : Val → Bool) (xs : List Val) : (xs.map p).all id = xs.all p := by simp [List.all_map]
theorem trues_of {p : Val → Bool} {xs : List Val} (h : ∀ x ∈ xs, p x = true) : (xs.map fun x => Val.bl (p x)) = List.replicate xs.length (.bl true) := by
  induction xs with
  | nil => rfl
  | cons x xs ih => rw [List.map_cons, h x List.mem_cons_self, ih fun y hy => h y (List.mem_cons_of_mem _ hy)]; rfl
theorem bools_rep (n : Nat) (b : Bool) : bools? (List.replicate n (.bl b)) = some (List.replicate n b) := by
  induction n with
  | zero => rfl
  | succ n ih => rw [List.replicate_succ, bools?, ih]; rfl
/-- what is no tuple -/
def notT (v : Val) : Prop := isiv v "tuple" = some false ∧ ∀ s, deref v s = some v
theorem notT_of {v : Val} (hv : fine v = true) (h : ∀ xs, v ≠ .tup xs) : notT v := by
  cases v with
  | tup xs => exact absurd rfl (h xs)
  | fz => simp [fine] at hv
  | loc => simp [fine] at hv
  | fn => simp [fine] at hv
  | _ => exact ⟨rfl, fun _ => rfl⟩
theorem isT {ys : List Val} : isiv (.tup ys) "tuple" = some true := id rfl
theorem dT {ys : List Val} {s : Sto} : deref (.tup ys) s = some (.tup ys) := id rfl
theorem wts_len (xs : List Val) : 2 * xs.length ≤ wts xs := len_wts xs
def OrdL (nw : Nat) : CE := .lc (.seq (.var 0)) [2] .no (.call nw (.cons (.var 2) (.cons (.cst (.int 0)) (.cons (.bin .sub (.var 1) (.cst (.int 1))) .nil))))
def OrdD (nw : Nat) : Def := ⟨2, 3,
    (.cons (.ifs (.or (.not (.isiV 0 "tuple")) (.cmp .ne (.bltV .len 0) (.var 1)))
    (.cons (.ret (.cst (.bl false)))
    .nil)
    .nil)
    (.cons (.ret (.and (.blt .all (.cons (OrdL nw) .nil)) (.cmp .eq (.bltV .sorted 0) (.rng false .no (.so (.var 1))))))
    .nil))⟩
def MoveD (nw no : Nat) : Def := ⟨3, 3,
    (.cons (.ifs (.or (.not (.isiV 0 "tuple")) (.cmp .ne (.bltV .len 0) (.cst (.int 2))))
    (.cons (.ret (.cst (.bl false)))
    .nil)
    .nil)
    (.cons (.ret (.and (.call no (.cons (.idxV 0 (.cst (.int 0))) (.cons (.var 1) .nil))) (.call nw (.cons (.idxV 0 (.cst (.int 1))) (.cons (.cst (.int 0)) (.cons (.bin .sub (.var 2) (.cst (.int 1))) .nil))))))
    .nil))⟩
def MovesL (nm : Nat) : CE := .lc (.seq (.var 0)) [3] .no (.call nm (.cons (.var 3) (.cons (.var 1) (.cons (.var 2) .nil))))
def MovesD (nm : Nat) : Def := ⟨3, 4,
    (.cons (.ifs (.or (.not (.isiV 0 "tuple")) (.cmp .ne (.bltV .len 0) (.var 1)))
    (.cons (.ret (.cst (.bl false)))
    .nil)
    .nil)
    (.cons (.ret (.blt .all (.cons (MovesL nm) .nil)))
    .nil))⟩
def RowD (nw nms : Nat) : Def := ⟨3, 6,
    (.cons (.ifs (.or (.not (.isiV 0 "tuple")) (.cmp .ne (.bltV .len 0) (.cst (.int 3))))
    (.cons (.ret (.cst (.bl false)))
    .nil)
    .nil)
    (.cons (.asgT [3, 4, 5] (.var 0))
    (.cons (.ret (.and (.call nms (.cons (.var 3) (.cons (.var 1) (.cons (.var 2) .nil)))) (.and (.call nw (.cons (.var 4) (.cons (.cst (.int 0)) (.cons (.bin .sub (.var 1) (.cst (.int 1))) .nil)))) (.call nms (.cons (.var 5) (.cons (.var 1) (.cons (.var 2) .nil)))))))
    .nil)))⟩
def RuleL (nr : Nat) : CE := .lc (.seq (.var 2)) [3] .no (.call nr (.cons (.var 3) (.cons (.var 1) (.cons (.bltV .len 2) .nil))))
def RuleD (nw nr : Nat) : Def := ⟨1, 4,
    (.cons (.ifs (.or (.not (.isiV 0 "tuple")) (.cmp .ne (.bltV .len 0) (.cst (.int 2))))
    (.cons (.ret (.cst (.bl false)))
    .nil)
    .nil)
    (.cons (.asgT [1, 2] (.var 0))
    (.cons (.ifs (.or (.not (.call nw (.cons (.var 1) (.cons (.cst (.int 1)) (.cons (.cst (.int 4)) .nil))))) (.not (.isiV 2 "tuple")))
    (.cons (.ret (.cst (.bl false)))
    .nil)
    .nil)
    (.cons (.ifs (.not (.chn .le .le (.cst (.int 1)) (.bltV .len 2) (.cst (.int 16))))
    (.cons (.ret (.cst (.bl false)))
    .nil)
    .nil)
    (.cons (.ret (.blt .all (.cons (RuleL nr) .nil)))
    .nil)))))⟩
section
variable {T : List Def} {nw no nm nms nr nu k : Nat} {s : Sto}
theorem ordL (hW : T[nw]? = some WholeD) {xs : List Val} {p : Int} (hx : ∀ x ∈ xs, fine x = true) (hl : xs.length ≤ 1000) : evE (callN T (k + 1)) (OrdL nw) [some (.val (.tup xs)), some (.val (.int p)), none] s = .ok (.fr (xs.map fun x => .bl (isW 0 (p - 1) x))) [some (.val (.tup xs)), some (.val (.int p)), none] s := by
  unfold OrdL
  rw [ev_lc]
  have e : evI (callN T (k + 1)) (.seq (.var 0)) [some (.val (.tup xs)), some (.val (.int p)), none] s = .ok xs [some (.val (.tup xs)), some (.val (.int p)), none] s := by simp -implicitDefEqProofs
  rw [e, bind_ok, lc_map (g := fun x => .bl (isW 0 (p - 1) x)) [] (by have := le_line (n := xs.length) hl; simpa using this) ?_]
  · simp
  · intro x hx'
    simp -implicitDefEqProofs [turnF, whole hW (hx x hx')]
theorem order (hW : T[nw]? = some WholeD) (hO : T[no]? = some (OrdD nw)) {v : Val} {p : Int} (hv : fine v = true) (h1 : 1 ≤ p) (h2 : p ≤ 4) : callN T (k + 2) no [v, .int p] s = .ok (.val (.bl (isOrd p v))) s := by
  rw [callN_eq hO]
  by_cases ht : ∃ xs, v = .tup xs
  · obtain ⟨xs, rfl⟩ := ht
    rw [fine, fines_iff] at hv
    rw [ord_sort (by omega)]
    by_cases hl : (xs.length : Int) = p
    · have l := ordL (k := k) (s := s) hW (xs := xs) (p := p) hv (by omega)
      cases ha : xs.all (isW 0 (p - 1)) with
      | false =>
        simp -implicitDefEqProofs [runD, OrdD, isiv, hl, l, bools_map, all_map, ha]
      | true =>
        obtain ⟨ns, rfl, hb⟩ := allW ha
        have so : bltop .sorted [.tup (ns.map .int)] = some (.fr ((ns.mergeSort fun a b => decide (a ≤ b)).map .int)) := by
          show (ints? (ns.map .int)).map _ = _
          rw [ints_map]; rfl
        have rs := rng_small (n := p) (by omega) (by omega)
        have rz : (p - 0).toNat ≤ 16777216 := by omega
        have hl' : (ns.length : Int) = p := by simpa using hl
        have l' : evE (callN T (k + 1)) (OrdL nw) [some (.val (.tup (ns.map .int))), some (.val (.int p)), none] s = .ok (.fr (List.replicate ns.length (.bl true))) [some (.val (.tup (ns.map .int))), some (.val (.int p)), none] s := by
          rw [l, trues_of (List.all_eq_true.mp ha), List.length_map]
        have rz2 : p.toNat ≤ 16777216 := by omega
        have rz3 : p ≤ 16777216 := by omega
        simp -implicitDefEqProofs [runD, OrdD, isiv, so, hl', l', bools_rep, eqq_ints, rs, rz2, rz3, ints_map]
    · have : ¬ (xs.length : Int) = p := hl
      simp -implicitDefEqProofs [runD, OrdD, isiv, hl]
  · have hn := notT_of hv fun xs e => ht ⟨xs, e⟩
    have e : isOrd p v = false := by cases v <;> first | rfl | exact absurd ⟨_, rfl⟩ ht
    simp -implicitDefEqProofs [-deref, runD, OrdD, hn.1, hn.2, e]
theorem move (hW : T[nw]? = some WholeD) (hO : T[no]? = some (OrdD nw)) (hM : T[nm]? = some (MoveD nw no)) {v : Val} {p l : Int} (hv : fine v = true) (h1 : 1 ≤ p) (h2 : p ≤ 4) : callN T (k + 3) nm [v, .int p, .int l] s = .ok (.val (.bl (isMove p l v))) s := by
  rw [callN_eq hM]
  by_cases ht : ∃ xs, v = .tup xs
  · obtain ⟨xs, rfl⟩ := ht
    rw [fine, fines_iff] at hv
    by_cases hl : xs.length = 2
    · match xs, hl with
      | [a, b], _ =>
        have o := order (k := k) (s := s) hW hO (hv a (by simp)) h1 h2
        have w := whole (k := k + 1) (s := s) (lo := 0) (hi := l - 1) hW (hv b (by simp))
        have a0 : atI [a, b] 0 = some a := rfl
        have a1 : atI [a, b] 1 = some b := rfl
        cases h : isOrd p a <;> simp -implicitDefEqProofs [runD, MoveD, isiv, a0, a1, o, w, isMove, h]
    · have hz : ¬ ((xs.length : Int) = 2) := by omega
      have e : isMove p l (.tup xs) = false := by
        match xs, hl with
        | [], _ => rfl
        | [_], _ => rfl
        | _ :: _ :: _ :: _, _ => rfl
      simp -implicitDefEqProofs [runD, MoveD, isiv, hz, e]
  · have hn := notT_of hv fun xs e => ht ⟨xs, e⟩
    have e : isMove p l v = false := by cases v <;> first | rfl | exact absurd ⟨_, rfl⟩ ht
    simp -implicitDefEqProofs [-deref, runD, MoveD, hn.1, hn.2, e]
theorem movesL (hW : T[nw]? = some WholeD) (hO : T[no]? = some (OrdD nw)) (hM : T[nm]? = some (MoveD nw no)) {xs : List Val} {p l : Int} (hx : ∀ x ∈ xs, fine x = true) (hl : xs.length ≤ 1000) (h1 : 1 ≤ p) (h2 : p ≤ 4) :
    evE (callN T (k + 3)) (MovesL nm) [some (.val (.tup xs)), some (.val (.int p)), some (.val (.int l)), none] s = .ok (.fr (xs.map fun x => .bl (isMove p l x))) [some (.val (.tup xs)), some (.val (.int p)), some (.val (.int l)), none] s := by
  unfold MovesL
  rw [ev_lc]
  have e : evI (callN T (k + 3)) (.seq (.var 0)) [some (.val (.tup xs)), some (.val (.int p)), some (.val (.int l)), none] s = .ok xs [some (.val (.tup xs)), some (.val (.int p)), some (.val (.int l)), none] s := by simp -implicitDefEqProofs
  rw [e, bind_ok, lc_map (g := fun x => .bl (isMove p l x)) [] (by have := le_line (n := xs.length) hl; simpa using this) ?_]
  · simp
  · intro x hx'
    simp -implicitDefEqProofs [turnF, move hW hO hM (hx x hx') h1 h2]
theorem moves (hW : T[nw]? = some WholeD) (hO : T[no]? = some (OrdD nw)) (hM : T[nm]? = some (MoveD nw no)) (hS : T[nms]? = some (MovesD nm)) {v : Val} {p l : Int} (hv : fine v = true) (h1 : 1 ≤ p) (h2 : p ≤ 4) : callN T (k + 4) nms [v, .int p, .int l] s = .ok (.val (.bl (areMoves p l v))) s := by
  rw [callN_eq hS]
  by_cases ht : ∃ xs, v = .tup xs
  · obtain ⟨xs, rfl⟩ := ht
    rw [fine, fines_iff] at hv
    by_cases hl : (xs.length : Int) = p
    · simp -implicitDefEqProofs [runD, MovesD, isiv, hl, movesL hW hO hM hv (by omega) h1 h2, bools_map, all_map, areMoves]
    · simp -implicitDefEqProofs [runD, MovesD, isiv, hl, areMoves]
  · have hn := notT_of hv fun xs e => ht ⟨xs, e⟩
    have e : areMoves p l v = false := by cases v <;> first | rfl | exact absurd ⟨_, rfl⟩ ht
    simp -implicitDefEqProofs [-deref, runD, MovesD, hn.1, hn.2, e]
theorem row (hW : T[nw]? = some WholeD) (hO : T[no]? = some (OrdD nw)) (hM : T[nm]? = some (MoveD nw no)) (hS : T[nms]? = some (MovesD nm)) (hR : T[nr]? = some (RowD nw nms)) {v : Val} {p l : Int} (hv : fine v = true) (h1 : 1 ≤ p) (h2 : p ≤ 4) : callN T (k + 5) nr [v, .int p, .int l] s = .ok (.val (.bl (isRow p l v))) s := by
  rw [callN_eq hR]
  by_cases ht : ∃ xs, v = .tup xs
  · obtain ⟨xs, rfl⟩ := ht
    rw [fine, fines_iff] at hv
    by_cases hl : xs.length = 3
    · match xs, hl with
      | [a, b, c], _ =>
        have m1 := moves (k := k) (s := s) (l := l) hW hO hM hS (hv a (by simp)) h1 h2
        have m2 := moves (k := k) (s := s) (l := l) hW hO hM hS (hv c (by simp)) h1 h2
        have w := whole (k := k + 3) (s := s) (lo := 0) (hi := p - 1) hW (hv b (by simp))
        cases h : areMoves p l a <;> cases h' : isW 0 (p - 1) b <;> simp -implicitDefEqProofs [runD, RowD, isiv, m1, m2, w, isRow, h, h']
    · have hz : ¬ ((xs.length : Int) = 3) := by omega
      have e : isRow p l (.tup xs) = false := by
        match xs, hl with
        | [], _ => rfl
        | [_], _ => rfl
        | [_, _], _ => rfl
        | _ :: _ :: _ :: _ :: _, _ => rfl
      simp -implicitDefEqProofs [runD, RowD, isiv, hz, e]
  · have hn := notT_of hv fun xs e => ht ⟨xs, e⟩
    have e : isRow p l v = false := by cases v <;> first | rfl | exact absurd ⟨_, rfl⟩ ht
    simp -implicitDefEqProofs [-deref, runD, RowD, hn.1, hn.2, e]
theorem ruleL (hW : T[nw]? = some WholeD) (hO : T[no]? = some (OrdD nw)) (hM : T[nm]? = some (MoveD nw no)) (hS : T[nms]? = some (MovesD nm)) (hR : T[nr]? = some (RowD nw nms)) {v : Val} {xs : List Val} {p : Int} (hx : ∀ x ∈ xs, fine x = true) (hl : xs.length ≤ 1000) (h1 : 1 ≤ p) (h2 : p ≤ 4) :
    evE (callN T (k + 5)) (RuleL nr) [some (.val v), some (.val (.int p)), some (.val (.tup xs)), none] s = .ok (.fr (xs.map fun x => .bl (isRow p xs.length x))) [some (.val v), some (.val (.int p)), some (.val (.tup xs)), none] s := by
  unfold RuleL
  rw [ev_lc]
  have e : evI (callN T (k + 5)) (.seq (.var 2)) [some (.val v), some (.val (.int p)), some (.val (.tup xs)), none] s = .ok xs [some (.val v), some (.val (.int p)), some (.val (.tup xs)), none] s := by simp -implicitDefEqProofs
  rw [e, bind_ok, lc_map (g := fun x => .bl (isRow p xs.length x)) [] (by have := le_line (n := xs.length) hl; simpa using this) ?_]
  · simp
  · intro x hx'
    simp -implicitDefEqProofs [turnF, row hW hO hM hS hR (hx x hx') h1 h2]
theorem rule (hW : T[nw]? = some WholeD) (hO : T[no]? = some (OrdD nw)) (hM : T[nm]? = some (MoveD nw no)) (hS : T[nms]? = some (MovesD nm)) (hR : T[nr]? = some (RowD nw nms)) (hU : T[nu]? = some (RuleD nw nr)) {v : Val} (hv : fine v = true) : callN T (k + 6) nu [v] s = .ok (.val (.bl (isRule v))) s := by
  rw [callN_eq hU]
  by_cases ht : ∃ xs, v = .tup xs
  · obtain ⟨xs, rfl⟩ := ht
    rw [fine, fines_iff] at hv
    by_cases hl : xs.length = 2
    · match xs, hl with
      | [a, b], _ =>
        have ha := hv a (by simp)
        have hb := hv b (by simp)
        have w := whole (k := k + 4) (s := s) (lo := 1) (hi := 4) hW ha
        cases hw : isW 1 4 a with
        | false =>
          have e : isRule (.tup [a, b]) = false := by
            cases a with
            | int p =>
              have hw' : (decide (1 ≤ p) && decide (p ≤ 4)) = false := hw
              cases b <;> first | rfl | (rw [isRule, hw']; rfl)
            | _ => rfl
          rw [hw] at w
          simp -implicitDefEqProofs [-deref, runD, RuleD, isiv, w, e, deref]
        | true =>
          rw [hw] at w
          cases a with
          | int p =>
            simp only [isW, Bool.and_eq_true, decide_eq_true_eq] at hw
            by_cases hb2 : ∃ ys, b = .tup ys
            · obtain ⟨ys, rfl⟩ := hb2
              rw [fine, fines_iff] at hb
              by_cases c1 : 1 ≤ ys.length
              · by_cases c2 : ys.length ≤ 16
                · have c1' : (1 : Int) ≤ ys.length := by omega
                  have c2' : (ys.length : Int) ≤ 16 := by omega
                  have rl := ruleL (k := k) (s := s) (v := .tup [.int p, .tup ys]) hW hO hM hS hR hb (by omega) hw.1 hw.2
                  simp -implicitDefEqProofs [runD, RuleD, isiv, w, c1, c2, c1', c2', rl, bools_map, all_map, isRule, hw]
                · have c1' : (1 : Int) ≤ ys.length := by omega
                  have c2' : ¬ (ys.length : Int) ≤ 16 := by omega
                  simp -implicitDefEqProofs [runD, RuleD, isiv, w, c1, c2, c1', c2', isRule]
              · have c1' : ¬ (1 : Int) ≤ ys.length := by omega
                simp -implicitDefEqProofs [runD, RuleD, isiv, w, c1, c1', isRule]
            · have hn := notT_of hb fun xs e => hb2 ⟨xs, e⟩
              have e : isRule (.tup [.int p, b]) = false := by cases b <;> first | rfl | exact absurd ⟨_, rfl⟩ hb2
              simp -implicitDefEqProofs [-deref, runD, RuleD, isT, dT, w, hn.1, hn.2, e]
          | _ => cases hw
    · have hz : ¬ ((xs.length : Int) = 2) := by omega
      have e : isRule (.tup xs) = false := by
        unfold isRule
        split
        · rename_i h
          cases h
          exact absurd rfl hl
        · rfl
      simp -implicitDefEqProofs [runD, RuleD, isiv, hz, e]
  · have hn := notT_of hv fun xs e => ht ⟨xs, e⟩
    have e : isRule v = false := by cases v <;> first | rfl | exact absurd ⟨_, rfl⟩ ht
    simp -implicitDefEqProofs [-deref, runD, RuleD, hn.1, hn.2, e]
end
end Gz
/-! Rules that a law makes: with names, drawn. -/
namespace Gz
open PySem L2
def frontV (p a : Int) : Val := .tup (.int a :: ((rngI 0 p).map Val.int).filter fun x => match x with | .int i => !(i == a) | _ => true)
def fwd (p : Int) : List Val := ((rngI 0 p).map Val.int).map fun x => match x with | .int a => frontV p a | x => x
def mv0 (o : Val) : Val := .tup [o, .int 0]
def labelV (p : Int) (hs : List Val) (out : Int) (cs : List Val) : Val := .tup [.int p, .tup [.tup [.tup (hs.map mv0), .int out, .tup (cs.map mv0)]]]
def recentV (p : Int) : Val := labelV p (fwd p) (p - 1) (fwd p)
def queueV (p : Int) : Val := labelV p (List.replicate p.toNat (.tup ((rngI 0 p).map Val.int))) (p - 1) (fwd p)
def newestV (p : Int) : Val := labelV p (fwd p) 0 (fwd p)
def FrontL : CE := .lc (.rng .no (.var 1)) [2] (.so (.cmp .ne (.var 2) (.var 0))) (.var 2)
def FrontD : Def := ⟨2, 3,
    (.cons (.ret (.bin .add (.tup (.cons (.var 0) .nil)) (.blt .tuple (.cons FrontL .nil))))
    .nil)⟩
def OneL0 : CE := .lc (.seq (.var 3)) [6] .no (.tup (.cons (.var 6) (.cons (.cst (.int 0)) .nil)))
def OneL1 : CE := .lc (.seq (.var 1)) [6] .no (.tup (.cons (.var 6) (.cons (.cst (.int 0)) .nil)))
def OneD : Def := ⟨4, 7,
    (.cons (.par [4, 5] (.cons OneL1 (.cons OneL0 .nil)))
    (.cons (.ret (.tup (.cons (.var 0) (.cons (.tup (.cons (.tup (.cons (.bltV .tuple 4) (.cons (.var 2) (.cons (.bltV .tuple 5) .nil)))) .nil)) .nil))))
    .nil))⟩
def FwdL (nf : Nat) : CE := .lc (.rng .no (.var 0)) [2] .no (.call nf (.cons (.var 2) (.cons (.var 0) .nil)))
def RecentD (nf n1 : Nat) : Def := ⟨1, 3,
    (.cons (.asg 1 (FwdL nf))
    (.cons (.ret (.call n1 (.cons (.var 0) (.cons (.var 1) (.cons (.bin .sub (.var 0) (.cst (.int 1))) (.cons (.var 1) .nil))))))
    .nil))⟩
def QueueD (nf n1 : Nat) : Def := ⟨1, 3,
    (.cons (.asg 1 (FwdL nf))
    (.cons (.ret (.call n1 (.cons (.var 0) (.cons (.bin .mul (.lst (.cons (.rng true .no (.so (.var 0))) .nil)) (.var 0)) (.cons (.bin .sub (.var 0) (.cst (.int 1))) (.cons (.var 1) .nil))))))
    .nil))⟩
def NewestD (nf n1 : Nat) : Def := ⟨1, 3,
    (.cons (.asg 1 (FwdL nf))
    (.cons (.ret (.call n1 (.cons (.var 0) (.cons (.var 1) (.cons (.cst (.int 0)) (.cons (.var 1) .nil))))))
    .nil))⟩
section
variable {T : List Def} {nf n1 k : Nat} {s : Sto}
theorem frontL {F : FT} {p a : Int} (h1 : 0 ≤ p) (h2 : p ≤ 1000) : evE F FrontL [some (.val (.int a)), some (.val (.int p)), none] s = .ok (.fr (((rngI 0 p).map Val.int).filter fun x => match x with | .int i => !(i == a) | _ => true)) [some (.val (.int a)), some (.val (.int p)), none] s := by
  unfold FrontL
  rw [ev_lc]
  have e : evI F (.rng .no (.var 1)) [some (.val (.int a)), some (.val (.int p)), none] s = .ok ((rngI 0 p).map .int) [some (.val (.int a)), some (.val (.int p)), none] s := by
    simp -implicitDefEqProofs [rng_small h1 (by omega)]
  rw [e, bind_ok, lc_filter (p := fun x => match x with | .int i => !(i == a) | _ => true) (g := id) [] (by have := le_line (n := p.toNat) (by omega); rw [List.length_map, rng_len0]; simpa using this) ?_]
  · simp
  · intro x hx
    obtain ⟨i, _, rfl⟩ := List.mem_map.mp hx
    cases h : (i == a) <;> simp -implicitDefEqProofs [turnF, h]
theorem front (hF : T[nf]? = some FrontD) {p a : Int} (h1 : 0 ≤ p) (h2 : p ≤ 100) : callN T (k + 1) nf [.int a, .int p] s = .ok (.val (frontV p a)) s := by
  rw [callN_eq hF]
  have hl : (((rngI 0 p).map Val.int).filter fun x => match x with | .int i => !(i == a) | _ => true).length ≤ 100 := by
    refine Nat.le_trans (List.length_filter_le _ _) ?_
    rw [List.length_map, rng_len0]; omega
  have b := b_addT (xs := [Val.int a]) (ys := ((rngI 0 p).map Val.int).filter fun x => match x with | .int i => !(i == a) | _ => true) (le_line (by simp only [List.length_cons, List.length_nil]; omega))
  have fl := frontL (F := callN T k) (s := s) (a := a) h1 (p := p) (by omega)
  generalize hf : (((rngI 0 p).map Val.int).filter fun x => match x with | .int i => !(i == a) | _ => true) = L at *
  simp -implicitDefEqProofs [runD, FrontD, fl, b, le_line]
  unfold frontV
  rw [hf]
theorem oneL0 {F : FT} {a b c d e f : Option Slot} {v : Val} {xs : List Val} (hv : items v = some xs) (hl : xs.length ≤ 1000) : evE F OneL0 [a, b, c, some (.val v), d, e, none] s = .ok (.fr (xs.map mv0)) [a, b, c, some (.val v), d, e, none] s := by
  unfold OneL0
  rw [ev_lc]
  have e1 : evI F (.seq (.var 3)) [a, b, c, some (.val v), d, e, none] s = .ok xs [a, b, c, some (.val v), d, e, none] s := by simp -implicitDefEqProofs [hv]
  rw [e1, bind_ok, lc_map (g := mv0) [] (by have := le_line (n := xs.length) hl; simpa using this) ?_]
  · simp
  · intro x _
    simp -implicitDefEqProofs [turnF, le_line, mv0]
theorem oneL1 {F : FT} {a b c d e f : Option Slot} {v : Val} {xs : List Val} (hv : items v = some xs) (hl : xs.length ≤ 1000) : evE F OneL1 [a, some (.val v), b, c, d, e, none] s = .ok (.fr (xs.map mv0)) [a, some (.val v), b, c, d, e, none] s := by
  unfold OneL1
  rw [ev_lc]
  have e1 : evI F (.seq (.var 1)) [a, some (.val v), b, c, d, e, none] s = .ok xs [a, some (.val v), b, c, d, e, none] s := by simp -implicitDefEqProofs [hv]
  rw [e1, bind_ok, lc_map (g := mv0) [] (by have := le_line (n := xs.length) hl; simpa using this) ?_]
  · simp
  · intro x _
    simp -implicitDefEqProofs [turnF, le_line, mv0]
theorem oneLabel (hO : T[n1]? = some OneD) {p out : Int} {hs cs : List Val} (h1 : hs.length ≤ 1000) (h2 : cs.length ≤ 1000) : callN T (k + 1) n1 [.int p, .lst hs, .int out, .lst cs] s = .ok (.val (labelV p hs out cs)) s := by
  rw [callN_eq hO]
  have l0 := fun a b c d e => oneL0 (F := callN T k) (s := s) (a := a) (b := b) (c := c) (d := d) (e := e) (f := none) (v := .lst cs) rfl h2
  have l1 := fun a b c d e => oneL1 (F := callN T k) (s := s) (a := a) (b := b) (c := c) (d := d) (e := e) (f := none) (v := .lst hs) rfl h1
  simp -implicitDefEqProofs [runD, OneD, l0, l1, le_line, labelV]
theorem fwdL (hF : T[nf]? = some FrontD) {p : Int} {x : Option Slot} (h1 : 0 ≤ p) (h2 : p ≤ 100) : evE (callN T (k + 1)) (FwdL nf) [some (.val (.int p)), x, none] s = .ok (.fr (fwd p)) [some (.val (.int p)), x, none] s := by
  unfold FwdL
  rw [ev_lc]
  have e : evI (callN T (k + 1)) (.rng .no (.var 0)) [some (.val (.int p)), x, none] s = .ok ((rngI 0 p).map .int) [some (.val (.int p)), x, none] s := by
    simp -implicitDefEqProofs [rng_small h1 (by omega)]
  rw [e, bind_ok, lc_map (g := fun x => match x with | .int a => frontV p a | x => x) [] (by have := le_line (n := p.toNat) (by omega); rw [List.length_map, rng_len0]; simpa using this) ?_]
  · simp [fwd]
  · intro y hy
    obtain ⟨i, _, rfl⟩ := List.mem_map.mp hy
    simp -implicitDefEqProofs [turnF, front hF h1 h2]
theorem fwd_len {p : Int} : (fwd p).length = p.toNat := by unfold fwd; rw [List.length_map, List.length_map, rng_len0]
theorem recent (hF : T[nf]? = some FrontD) (hO : T[n1]? = some OneD) {f : Nat} (hR : T[f]? = some (RecentD nf n1)) {p : Int} (h1 : 0 ≤ p) (h2 : p ≤ 100) : callN T (k + 2) f [.int p] s = .ok (.val (recentV p)) s := by
  rw [callN_eq hR]
  have l := fun x => fwdL (k := k) (s := s) (x := x) hF h1 h2
  have o := oneLabel (k := k) (s := s) hO (p := p) (out := p - 1) (hs := fwd p) (cs := fwd p) (by rw [fwd_len]; omega) (by rw [fwd_len]; omega)
  simp -implicitDefEqProofs [runD, RecentD, l, o, recentV]
theorem newest (hF : T[nf]? = some FrontD) (hO : T[n1]? = some OneD) {f : Nat} (hR : T[f]? = some (NewestD nf n1)) {p : Int} (h1 : 0 ≤ p) (h2 : p ≤ 100) : callN T (k + 2) f [.int p] s = .ok (.val (newestV p)) s := by
  rw [callN_eq hR]
  have l := fun x => fwdL (k := k) (s := s) (x := x) hF h1 h2
  have o := oneLabel (k := k) (s := s) hO (p := p) (out := 0) (hs := fwd p) (cs := fwd p) (by rw [fwd_len]; omega) (by rw [fwd_len]; omega)
  simp -implicitDefEqProofs [runD, NewestD, l, o, newestV]
theorem queue (hF : T[nf]? = some FrontD) (hO : T[n1]? = some OneD) {f : Nat} (hR : T[f]? = some (QueueD nf n1)) {p : Int} (h1 : 0 ≤ p) (h2 : p ≤ 100) : callN T (k + 2) f [.int p] s = .ok (.val (queueV p)) s := by
  rw [callN_eq hR]
  have l := fun x => fwdL (k := k) (s := s) (x := x) hF h1 h2
  have o := oneLabel (k := k) (s := s) hO (p := p) (out := p - 1) (hs := List.replicate p.toNat (.tup ((rngI 0 p).map Val.int))) (cs := fwd p) (by rw [List.length_replicate]; omega) (by rw [fwd_len]; omega)
  have m : binop .mul (.lst [.tup ((rngI 0 p).map Val.int)]) (.int p) = some (.fr (List.replicate p.toNat (.tup ((rngI 0 p).map Val.int)))) := by
    show (if -(2 ^ 63) ≤ p ∧ p < 2 ^ 63 ∧ [Val.tup ((rngI 0 p).map Val.int)].length * p.toNat ≤ sizeLine then some (Rv.fr (List.replicate p.toNat [Val.tup ((rngI 0 p).map Val.int)]).flatten) else none) = _
    rw [if_pos ⟨Int.le_trans (by decide) h1, Int.lt_of_le_of_lt h2 (by decide), le_line (by simp only [List.length_cons, List.length_nil]; omega)⟩]
    simp
  have rs := rng_small (n := p) h1 (by omega)
  have rz : p ≤ 16777216 := by omega
  simp -implicitDefEqProofs [runD, QueueD, l, o, queueV, rs, rz, le_line, m]
end
end Gz
/-! Drawn moves, drawn rules. -/
namespace Gz
open PySem L2
/-- a move of p places, l labels -/
def MvOk (p l : Int) (x : Val) : Prop := ∃ (ns : List Int) (j : Int), x = .tup [.tup (ns.map .int), .int j] ∧ ns.Perm (rngI 0 p) ∧ 0 ≤ j ∧ j < l
def MvsOk (p l : Int) (v : Val) : Prop := ∃ xs, v = .tup xs ∧ (xs.length : Int) = p ∧ ∀ x ∈ xs, MvOk p l x
def RwOk (p l : Int) (v : Val) : Prop := ∃ h o c, v = .tup [h, .int o, c] ∧ MvsOk p l h ∧ MvsOk p l c ∧ 0 ≤ o ∧ o < p
def RuOk (p l : Int) (v : Val) : Prop := ∃ rows, v = .tup [.int p, .tup rows] ∧ (rows.length : Int) = l ∧ ∀ x ∈ rows, RwOk p l x
theorem MvOk.is {p l : Int} {x : Val} (h : MvOk p l x) : isMove p l x = true := by
  obtain ⟨ns, j, rfl, pm, h1, h2⟩ := h
  rw [isMove, isOrd, ints_map]
  dsimp only
  rw [List.isPerm_iff.mpr pm]
  simp only [isW, Bool.true_and, Bool.and_eq_true, decide_eq_true_eq]
  omega
theorem MvsOk.is {p l : Int} {x : Val} (h : MvsOk p l x) : areMoves p l x = true := by
  obtain ⟨xs, rfl, hl, hm⟩ := h
  rw [areMoves, decide_eq_true hl, Bool.true_and, List.all_eq_true]
  exact fun x hx => (hm x hx).is
theorem RwOk.is {p l : Int} {x : Val} (h : RwOk p l x) : isRow p l x = true := by
  obtain ⟨a, o, c, rfl, h1, h2, h3, h4⟩ := h
  rw [isRow, h1.is, h2.is]
  simp only [isW, Bool.true_and, Bool.and_true, Bool.and_eq_true, decide_eq_true_eq]
  omega
theorem RuOk.is {p l : Int} {x : Val} (h : RuOk p l x) (h1 : 1 ≤ p) (h2 : p ≤ 4) (h3 : 1 ≤ l) (h4 : l ≤ 16) : isRule x = true := by
  obtain ⟨rows, rfl, hl, hm⟩ := h
  rw [isRule]
  simp only [Bool.and_eq_true, decide_eq_true_eq, List.all_eq_true]
  refine ⟨⟨h1, h2⟩, ⟨by omega, by omega⟩, fun x hx => ?_⟩
  rw [hl]
  exact (hm x hx).is
/-! sizes -/
theorem fine_i {j : Int} (h1 : -(10 ^ 20) ≤ j) (h2 : j ≤ 10 ^ 20) : fine (.int j) = true := by rw [fine]; exact decide_eq_true (small_int h1 h2)
theorem ints_fine {ns : List Int} (h : ∀ n ∈ ns, -(10 ^ 20) ≤ n ∧ n ≤ 10 ^ 20) : fines (ns.map .int) = true ∧ dps (ns.map .int) = 0 ∧ wts (ns.map .int) = ns.length * 1923 := by
  induction ns with
  | nil => exact ⟨rfl, rfl, rfl⟩
  | cons n ns ih =>
    obtain ⟨i1, i2, i3⟩ := ih fun m hm => h m (List.mem_cons_of_mem _ hm)
    have hn := h n List.mem_cons_self
    refine ⟨by rw [List.map_cons, fines, fine_i hn.1 hn.2, i1]; rfl, by rw [List.map_cons, dps, i2]; rfl, ?_⟩
    rw [List.map_cons, wts, i3, wt, List.length_cons]; omega
theorem MvOk.fine {p l : Int} {x : Val} (h : MvOk p l x) (hp : 0 ≤ p) (hp2 : p ≤ 5) (hl : l ≤ 1000) : Gz.fine x = true ∧ dp x ≤ 2 ∧ wt x ≤ 12000 := by
  obtain ⟨ns, j, rfl, pm, h1, h2⟩ := h
  have hb : ∀ n ∈ ns, -(10 ^ 20) ≤ n ∧ n ≤ 10 ^ 20 := fun n hn => by
    have := rng_mem.mp (pm.mem_iff.mp hn)
    omega
  obtain ⟨i1, i2, i3⟩ := ints_fine hb
  have ln : ns.length ≤ 5 := by rw [pm.length_eq, rng_len0]; omega
  refine ⟨?_, ?_, ?_⟩
  · rw [Gz.fine, fines, Gz.fine, i1, fines, fine_i (by omega) (by omega)]; rfl
  · rw [dp, dps, dp, i2]; simp [dps, dp]
  · simp only [wt, wts, i3]; omega
theorem MvsOk.fine {p l : Int} {x : Val} (h : MvsOk p l x) (hp : 0 ≤ p) (hp2 : p ≤ 5) (hl : l ≤ 1000) : Gz.fine x = true ∧ dp x ≤ 3 ∧ wt x ≤ 60100 := by
  obtain ⟨xs, rfl, hl2, hm⟩ := h
  have f := fun x hx => (hm x hx).fine hp hp2 hl
  have w := wts_le (b := 12000) fun x hx => (f x hx).2.2
  have d := dps_le.mpr fun x hx => (f x hx).2.1
  refine ⟨by rw [Gz.fine]; exact fines_iff.mpr fun x hx => (f x hx).1, by rw [dp]; omega, ?_⟩
  rw [wt]
  have : xs.length ≤ 5 := by omega
  have : xs.length * (12000 + 2) ≤ 5 * (12000 + 2) := Nat.mul_le_mul_right _ this
  omega
theorem RwOk.fine {p l : Int} {x : Val} (h : RwOk p l x) (hp : 0 ≤ p) (hp2 : p ≤ 5) (hl : l ≤ 1000) : Gz.fine x = true ∧ dp x ≤ 4 ∧ wt x ≤ 123000 := by
  obtain ⟨a, o, c, rfl, h1, h2, h3, h4⟩ := h
  obtain ⟨a1, a2, a3⟩ := h1.fine hp hp2 hl
  obtain ⟨c1, c2, c3⟩ := h2.fine hp hp2 hl
  refine ⟨?_, ?_, ?_⟩
  · simp only [Gz.fine, fines, a1, c1, Bool.true_and, Bool.and_true]
    have := fine_i (j := o) (by omega) (by omega)
    rw [Gz.fine] at this
    exact this
  · simp only [dp, dps]; omega
  · simp only [wt, wts]; omega
theorem RuOk.fine {p l : Int} {x : Val} (h : RuOk p l x) (hp : 0 ≤ p) (hp2 : p ≤ 5) (hl : l ≤ 20) : Gz.fine x = true ∧ dp x ≤ 6 ∧ wt x ≤ 2000 + l.toNat * 123002 + 100 := by
  obtain ⟨rows, rfl, hl2, hm⟩ := h
  have f := fun x hx => (hm x hx).fine hp hp2 (by omega)
  have w := wts_le (b := 123000) fun x hx => (f x hx).2.2
  have d := dps_le.mpr fun x hx => (f x hx).2.1
  have e : rows.length = l.toNat := by omega
  rw [e] at w
  refine ⟨?_, ?_, ?_⟩
  · simp only [Gz.fine, fines, Bool.and_true, fines_iff.mpr fun x hx => (f x hx).1]
    have := fine_i (j := p) (by omega) (by omega)
    rw [Gz.fine] at this
    exact this
  · simp only [dp, dps]; omega
  · simp only [wt, wts]; omega
/-! the defs -/
def MvsF (nd nx : Nat) : CS := .for_ [4] (.rng .no (.var 1))
    (.cons (.asg 5 (.ite (.cmp .eq (.call nd (.cons (.var 0) (.cons (.cst (.int 3)) .nil))) (.cst (.int 0))) (.rng true .no (.so (.var 1))) (.blt .tuple (.cons (.call nx (.cons (.var 0) (.cons (.rng false .no (.so (.var 1))) .nil))) .nil))))
    (.cons (.exp (.app 3 (.tup (.cons (.var 5) (.cons (.call nd (.cons (.var 0) (.cons (.var 2) .nil))) .nil)))))
    .nil))
def MvsD (nd nx : Nat) : Def := ⟨3, 6,
    (.cons (.asg 3 (.lst .nil))
    (.cons (MvsF nd nx)
    (.cons (.ret (.bltV .tuple 3))
    .nil)))⟩
section
variable {T : List Def} {nd nx nm k i : Nat} {s : Sto} {n p l : Int}
theorem mvsTurn (hD : T[nd]? = some Draw) (hX : T[nx]? = some (MixD nd)) {x : Val} {x4 x5 : Option Slot} {found : List Val} (hp : Pen s i n) (hn : n + 20 < 1000000000000000000) (h1 : 1 ≤ p) (h2 : p ≤ 5) (h3 : 1 ≤ l) (h4 : l ≤ 1000) (hf : found.length ≤ 1000) :
    ∃ y w5 s', turnB (callN T (k + 2)) [4] (.cons (.asg 5 (.ite (.cmp .eq (.call nd (.cons (.var 0) (.cons (.cst (.int 3)) .nil))) (.cst (.int 0))) (.rng true .no (.so (.var 1))) (.blt .tuple (.cons (.call nx (.cons (.var 0) (.cons (.rng false .no (.so (.var 1))) .nil))) .nil))))
    (.cons (.exp (.app 3 (.tup (.cons (.var 5) (.cons (.call nd (.cons (.var 0) (.cons (.var 2) .nil))) .nil)))))
    .nil)) x [some (.val (.loc i)), some (.val (.int p)), some (.val (.int l)), some (.own found), x4, x5] s = .ok .next [some (.val (.loc i)), some (.val (.int p)), some (.val (.int l)), some (.own (found ++ [y])), some (.val x), w5] s' ∧ MvOk p l y ∧ Pen s' i (n + 10) ∧ s'.length = s.length := by
  obtain ⟨q, s1, e1, q1, q2, p1, l1⟩ := draw (k := k + 1) hD hp (by omega) (m := 3) (by decide) (by decide)
  have rs := rng_small (n := p) (by omega) (by omega)
  have rz : p ≤ 16777216 := by omega
  have fl : found.length < sizeLine := small_line (by omega)
  have l2 : (2 : Nat) ≤ sizeLine := le_line (by omega)
  by_cases hq : q = 0
  · subst hq
    obtain ⟨j, s2, e2, j1, j2, p2, l3⟩ := draw (k := k + 1) hD p1 (by omega) (m := l) (by omega) (by omega)
    refine ⟨.tup [.tup ((rngI 0 p).map .int), .int j], some (.val (.tup ((rngI 0 p).map .int))), s2, ?_, ⟨rngI 0 p, j, rfl, List.Perm.refl _, j1, j2⟩, p2.le (by omega), by omega⟩
    simp -implicitDefEqProofs [turnB, e1, e2, rs, rz, fl, l2]
  · have lr : (((rngI 0 p).map Val.int)).length = p.toNat := by rw [List.length_map, rng_len0]
    obtain ⟨ys, s2, e2, pm, p2, l3⟩ := mixed (k := k) (v := .lst ((rngI 0 p).map .int)) (.inl rfl) hX hD p1 (by rw [lr]; omega) (by rw [lr]; omega)
    rw [lr] at p2
    obtain ⟨j, s3, e3, j1, j2, p3, l4⟩ := draw (k := k + 1) hD p2 (by omega) (m := l) (by omega) (by omega)
    obtain ⟨ns, rfl⟩ : ∃ ns : List Int, ys = ns.map .int := by
      have : ∀ y ∈ ys, ∃ z : Int, y = .int z := fun y hy => by
        obtain ⟨z, _, e⟩ := List.mem_map.mp (pm.mem_iff.mp hy)
        exact ⟨z, e.symm⟩
      clear e2 pm
      induction ys with
      | nil => exact ⟨[], rfl⟩
      | cons y ys ih =>
        obtain ⟨z, rfl⟩ := this y List.mem_cons_self
        obtain ⟨ns, rfl⟩ := ih fun y hy => this y (List.mem_cons_of_mem _ hy)
        exact ⟨z :: ns, rfl⟩
    have pm2 : ns.Perm (rngI 0 p) := by
      have := pm.filterMap (fun v => match v with | .int z => some z | _ => none)
      simpa [List.filterMap_map, Function.comp_def] using this
    refine ⟨.tup [.tup (ns.map .int), .int j], some (.val (.tup (ns.map .int))), s3, ?_, ⟨ns, j, rfl, pm2, j1, j2⟩, p3.le (by omega), by omega⟩
    simp -implicitDefEqProofs [turnB, e1, beq_eq_false_iff_ne.mpr hq, e2, e3, rs, rz, fl, l2]
theorem mvs (hD : T[nd]? = some Draw) (hX : T[nx]? = some (MixD nd)) (hM : T[nm]? = some (MvsD nd nx)) (hp : Pen s i n) (hn : n + 100 < 1000000000000000000) (h1 : 1 ≤ p) (h2 : p ≤ 5) (h3 : 1 ≤ l) (h4 : l ≤ 1000) :
    ∃ v s', callN T (k + 3) nm [.loc i, .int p, .int l] s = .ok (.val v) s' ∧ MvsOk p l v ∧ Pen s' i (n + 50) ∧ s'.length = s.length := by
  have loop : ∃ found w4 w5 s', exS (callN T (k + 2)) (MvsF nd nx) [some (.val (.loc i)), some (.val (.int p)), some (.val (.int l)), some (.own []), none, none] s = .ok .next [some (.val (.loc i)), some (.val (.int p)), some (.val (.int l)), some (.own found), w4, w5] s' ∧ (found.length : Int) = p ∧ (∀ x ∈ found, MvOk p l x) ∧ Pen s' i (n + 50) ∧ s'.length = s.length := by
    unfold MvsF
    rw [ex_for]
    have e : evI (callN T (k + 2)) (.rng .no (.var 1)) [some (.val (.loc i)), some (.val (.int p)), some (.val (.int l)), some (.own []), none, none] s = .ok ((rngI 0 p).map .int) [some (.val (.loc i)), some (.val (.int p)), some (.val (.int l)), some (.own []), none, none] s := by
      simp -implicitDefEqProofs [rng_small (n := p) (by omega) (by omega)]
    rw [e, bind_ok]
    have len : ((rngI 0 p).map Val.int).length = p.toNat := by rw [List.length_map, rng_len0]
    obtain ⟨r', s', e2, found, w4, w5, rfl, lf, hm, pn, ln⟩ := for_ok (f := turnB (callN T (k + 2)) [4] _)
      (fun j r s' => ∃ found w4 w5, r = [some (.val (.loc i)), some (.val (.int p)), some (.val (.int l)), some (.own found), w4, w5] ∧ found.length = j ∧ (∀ x ∈ found, MvOk p l x) ∧ Pen s' i (n + 10 * j) ∧ s'.length = s.length)
      (xs := (rngI 0 p).map Val.int) (r := [some (.val (.loc i)), some (.val (.int p)), some (.val (.int l)), some (.own []), none, none]) (s := s) ⟨[], none, none, rfl, rfl, by simp, by simpa using hp, rfl⟩ (fun j x r s1 hx hI => by
        obtain ⟨found, w4, w5, rfl, lf, hm, pn, ln⟩ := hI
        have hj : j < p.toNat := by rw [← len]; exact lt_of_get hx
        obtain ⟨y, z5, s2, e, hy, p2, l2⟩ := mvsTurn (k := k) (x := x) (x4 := w4) (x5 := w5) (found := found) hD hX pn (by omega) h1 h2 h3 h4 (by omega)
        refine ⟨_, s2, e, found ++ [y], _, _, rfl, by simp [lf], ?_, p2.le (by omega), l2.trans ln⟩
        intro z hz
        rcases List.mem_append.mp hz with h | h
        · exact hm z h
        · rw [List.mem_singleton.mp h]; exact hy)
    rw [len] at lf pn
    exact ⟨found, w4, w5, s', e2, by omega, hm, pn.le (by omega), ln⟩
  obtain ⟨found, w4, w5, s', e, lf, hm, pn, ln⟩ := loop
  refine ⟨.tup found, s', ?_, ⟨found, rfl, lf, hm⟩, pn, ln⟩
  rw [callN_eq hM]
  simp -implicitDefEqProofs [runD, MvsD, e]
end
end Gz
/-! Drawn rules; a rule. -/
namespace Gz
open PySem L2
def DrawnB (nd nm : Nat) : CSs :=
    (.cons (.par [5, 6] (.cons (.call nm (.cons (.var 0) (.cons (.var 1) (.cons (.var 2) .nil)))) (.cons (.call nd (.cons (.var 0) (.cons (.var 1) .nil))) .nil)))
    (.cons (.exp (.app 3 (.tup (.cons (.var 5) (.cons (.var 6) (.cons (.call nm (.cons (.var 0) (.cons (.var 1) (.cons (.var 2) .nil)))) .nil))))))
    .nil))
def DrawnF (nd nm : Nat) : CS := .for_ [4] (.rng .no (.var 2)) (DrawnB nd nm)
def DrawnD (nd nm : Nat) : Def := ⟨3, 7,
    (.cons (.asg 3 (.lst .nil))
    (.cons (DrawnF nd nm)
    (.cons (.ret (.tup (.cons (.var 1) (.cons (.bltV .tuple 3) .nil))))
    .nil)))⟩
def RuleG (nd nr nq nn nw : Nat) : Def := ⟨3, 5,
    (.cons (.par [3, 4] (.cons (.bin .add (.cst (.int 1)) (.call nd (.cons (.var 0) (.cons (.var 1) .nil)))) (.cons (.call nd (.cons (.var 0) (.cons (.cst (.int 7)) .nil))) .nil)))
    (.cons (.ifs (.cmp .lt (.var 4) (.cst (.int 3)))
    (.cons (.ret (.idx (.lst (.cons (.call nr (.cons (.var 3) .nil)) (.cons (.call nq (.cons (.var 3) .nil)) (.cons (.call nn (.cons (.var 3) .nil)) .nil)))) (.var 4)))
    .nil)
    .nil)
    (.cons (.ret (.call nw (.cons (.var 0) (.cons (.var 3) (.cons (.bin .add (.cst (.int 1)) (.call nd (.cons (.var 0) (.cons (.var 2) .nil)))) .nil)))))
    .nil)))⟩
section
variable {T : List Def} {nd nx nm nw k i : Nat} {s : Sto} {n p l : Int}
theorem drawn (hD : T[nd]? = some Draw) (hX : T[nx]? = some (MixD nd)) (hM : T[nm]? = some (MvsD nd nx)) (hW : T[nw]? = some (DrawnD nd nm)) (hp : Pen s i n) (hn : n + 3000 < 1000000000000000000) (h1 : 1 ≤ p) (h2 : p ≤ 5) (h3 : 1 ≤ l) (h4 : l ≤ 20) :
    ∃ v s', callN T (k + 4) nw [.loc i, .int p, .int l] s = .ok (.val v) s' ∧ RuOk p l v ∧ Pen s' i (n + 2500) ∧ s'.length = s.length := by
  have loop : ∃ rows w4 w5 w6 s', exS (callN T (k + 3)) (DrawnF nd nm) [some (.val (.loc i)), some (.val (.int p)), some (.val (.int l)), some (.own []), none, none, none] s = .ok .next [some (.val (.loc i)), some (.val (.int p)), some (.val (.int l)), some (.own rows), w4, w5, w6] s' ∧ (rows.length : Int) = l ∧ (∀ x ∈ rows, RwOk p l x) ∧ Pen s' i (n + 2500) ∧ s'.length = s.length := by
    unfold DrawnF
    rw [ex_for]
    have e : evI (callN T (k + 3)) (.rng .no (.var 2)) [some (.val (.loc i)), some (.val (.int p)), some (.val (.int l)), some (.own []), none, none, none] s = .ok ((rngI 0 l).map .int) [some (.val (.loc i)), some (.val (.int p)), some (.val (.int l)), some (.own []), none, none, none] s := by
      simp -implicitDefEqProofs [rng_small (n := l) (by omega) (by omega)]
    rw [e, bind_ok]
    have len : ((rngI 0 l).map Val.int).length = l.toNat := by rw [List.length_map, rng_len0]
    obtain ⟨r', s', e2, rows, w4, w5, w6, rfl, lf, hm, pn, ln⟩ := for_ok (f := turnB (callN T (k + 3)) [4] (DrawnB nd nm))
      (fun j r s' => ∃ rows w4 w5 w6, r = [some (.val (.loc i)), some (.val (.int p)), some (.val (.int l)), some (.own rows), w4, w5, w6] ∧ rows.length = j ∧ (∀ x ∈ rows, RwOk p l x) ∧ Pen s' i (n + 110 * j) ∧ s'.length = s.length)
      (xs := (rngI 0 l).map Val.int) (r := [some (.val (.loc i)), some (.val (.int p)), some (.val (.int l)), some (.own []), none, none, none]) (s := s) ⟨[], none, none, none, rfl, rfl, by simp, by simpa using hp, rfl⟩ (fun j x r s1 hx hI => by
        obtain ⟨rows, w4, w5, w6, rfl, lf, hm, pn, ln⟩ := hI
        have hj : j < l.toNat := by rw [← len]; exact lt_of_get hx
        obtain ⟨a, s2, e1, ha, p2, l2⟩ := mvs (k := k) hD hX hM pn (by omega) h1 h2 h3 (l := l) (by omega)
        obtain ⟨q, s3, e2, q1, q2, p3, l3⟩ := draw (k := k + 2) hD p2 (by omega) (m := p) (by omega) (by omega)
        obtain ⟨c, s4, e3, hc, p4, l4⟩ := mvs (k := k) hD hX hM p3 (by omega) h1 h2 h3 (l := l) (by omega)
        have fl : rows.length < sizeLine := small_line (by omega)
        refine ⟨[some (.val (.loc i)), some (.val (.int p)), some (.val (.int l)), some (.own (rows ++ [.tup [a, .int q, c]])), some (.val x), some (.val a), some (.val (.int q))], s4, ?_, rows ++ [.tup [a, .int q, c]], _, _, _, rfl, by simp [lf], ?_, p4.le (by omega), by omega⟩
        · simp -implicitDefEqProofs [turnB, DrawnB, e1, e2, e3, fl, le_line]
        · intro z hz
          rcases List.mem_append.mp hz with h | h
          · exact hm z h
          · rw [List.mem_singleton.mp h]; exact ⟨a, q, c, rfl, ha, hc, q1, q2⟩)
    rw [len] at lf pn
    exact ⟨rows, w4, w5, w6, s', e2, by omega, hm, pn.le (by omega), ln⟩
  obtain ⟨rows, w4, w5, w6, s', e, lf, hm, pn, ln⟩ := loop
  refine ⟨.tup [.int p, .tup rows], s', ?_, ⟨rows, rfl, lf, hm⟩, pn, ln⟩
  rw [callN_eq hW]
  simp -implicitDefEqProofs [runD, DrawnD, e, le_line]
/-- what a law's rule is: one with a name, or drawn -/
def NamedOk (v : Val) : Prop := ∃ p : Int, 1 ≤ p ∧ p ≤ 4 ∧ (v = recentV p ∨ v = queueV p ∨ v = newestV p)
theorem named_ok : ([1, 2, 3, 4].all fun p : Int => [recentV p, queueV p, newestV p].all fun v => isRule v && fine v && decide (dp v ≤ 6) && decide (wt v ≤ 130000)) = true := by decide +kernel
theorem NamedOk.is {v : Val} (h : NamedOk v) : isRule v = true ∧ fine v = true ∧ dp v ≤ 6 ∧ wt v ≤ 130000 := by
  obtain ⟨p, h1, h2, h3⟩ := h
  have hp : p ∈ ([1, 2, 3, 4] : List Int) := by
    have : p = 1 ∨ p = 2 ∨ p = 3 ∨ p = 4 := by omega
    simpa using this
  have a := List.all_eq_true.mp named_ok p hp
  have b := List.all_eq_true.mp a v (by simpa using h3)
  simp only [Bool.and_eq_true, decide_eq_true_eq] at b
  exact ⟨b.1.1.1, b.1.1.2, b.1.2, b.2⟩
theorem ruleG {nr nq nn nf n1 ng : Nat} (hD : T[nd]? = some Draw) (hX : T[nx]? = some (MixD nd)) (hM : T[nm]? = some (MvsD nd nx)) (hW : T[nw]? = some (DrawnD nd nm)) (hF : T[nf]? = some FrontD) (hO : T[n1]? = some OneD) (hR : T[nr]? = some (RecentD nf n1)) (hQ : T[nq]? = some (QueueD nf n1)) (hN : T[nn]? = some (NewestD nf n1))
    (hG : T[ng]? = some (RuleG nd nr nq nn nw)) (hp : Pen s i n) (hn : n + 4000 < 1000000000000000000) {most : Int} (h1 : 1 ≤ most) (h2 : most ≤ 4) (h3 : 1 ≤ l) (h4 : l ≤ 16) :
    ∃ v s', callN T (k + 5) ng [.loc i, .int most, .int l] s = .ok (.val v) s' ∧ (NamedOk v ∨ ∃ p q, 1 ≤ p ∧ p ≤ 4 ∧ 1 ≤ q ∧ q ≤ l ∧ RuOk p q v) ∧ Pen s' i (n + 3000) ∧ s'.length = s.length := by
  obtain ⟨q, s1, e1, q1, q2, p1, l1⟩ := draw (k := k + 3) hD hp (by omega) (m := most) (by omega) (by omega)
  obtain ⟨w, s2, e2, w1, w2, p2, l2⟩ := draw (k := k + 3) hD p1 (by omega) (m := 7) (by omega) (by omega)
  by_cases h : w < 3
  · have r := recent (k := k + 2) (s := s2) hF hO hR (p := 1 + q) (by omega) (by omega)
    have u := queue (k := k + 2) (s := s2) hF hO hQ (p := 1 + q) (by omega) (by omega)
    have m := newest (k := k + 2) (s := s2) hF hO hN (p := 1 + q) (by omega) (by omega)
    have hw : w = 0 ∨ w = 1 ∨ w = 2 := by omega
    rcases hw with rfl | rfl | rfl
    · refine ⟨recentV (1 + q), s2, ?_, .inl ⟨1 + q, by omega, by omega, .inl rfl⟩, p2.le (by omega), by omega⟩
      rw [callN_eq hG]
      have a : atI [recentV (1 + q), queueV (1 + q), newestV (1 + q)] 0 = some (recentV (1 + q)) := rfl
      simp -implicitDefEqProofs [runD, RuleG, e1, e2, r, u, m, le_line, a]
    · refine ⟨queueV (1 + q), s2, ?_, .inl ⟨1 + q, by omega, by omega, .inr (.inl rfl)⟩, p2.le (by omega), by omega⟩
      rw [callN_eq hG]
      have a : atI [recentV (1 + q), queueV (1 + q), newestV (1 + q)] 1 = some (queueV (1 + q)) := rfl
      simp -implicitDefEqProofs [runD, RuleG, e1, e2, r, u, m, le_line, a]
    · refine ⟨newestV (1 + q), s2, ?_, .inl ⟨1 + q, by omega, by omega, .inr (.inr rfl)⟩, p2.le (by omega), by omega⟩
      rw [callN_eq hG]
      have a : atI [recentV (1 + q), queueV (1 + q), newestV (1 + q)] 2 = some (newestV (1 + q)) := rfl
      simp -implicitDefEqProofs [runD, RuleG, e1, e2, r, u, m, le_line, a]
  · obtain ⟨z, s3, e3, z1, z2, p3, l3⟩ := draw (k := k + 3) hD p2 (by omega) (m := l) (by omega) (by omega)
    obtain ⟨v, s4, e4, hv, p4, l4⟩ := drawn (k := k) hD hX hM hW p3 (by omega) (p := 1 + q) (by omega) (by omega) (l := 1 + z) (by omega) (by omega)
    refine ⟨v, s4, ?_, .inr ⟨1 + q, 1 + z, by omega, by omega, by omega, by omega, hv⟩, p4.le (by omega), by omega⟩
    rw [callN_eq hG]
    simp -implicitDefEqProofs [runD, RuleG, e1, e2, h, e3, e4]
end
end Gz
/-! Defs of the program and of the laws, by the numbers of what they call (printed by gz.py --gen). -/
namespace Gz
open PySem L2
/-- need_rule(rule), slots 0=rule; calls c_is_rule x_NoRule -/
def NeedRuleD (c_is_rule : Nat) (x_NoRule : CS) : Def := ⟨1, 1,
    (.cons (.ifs (.not (.call c_is_rule (.cons (.var 0) .nil)))
    (.cons x_NoRule
    .nil)
    .nil)
    .nil)⟩
/-- is_thing(thing), slots 0=thing; calls c_is_whole -/
def ThingD (c_is_whole : Nat) : Def := ⟨1, 1,
    (.cons (.ret (.call c_is_whole (.cons (.var 0) (.cons (.cst (.int 0)) (.cons (.cst (.int 99)) .nil)))))
    .nil)⟩
/-- first_state(rule), slots 0=rule; calls  -/
def FirstD : Def := ⟨1, 1,
    (.cons (.ret (.tup (.cons (.bin .mul (.tup (.cons (.cst (.int (-1))) .nil)) (.idxV 0 (.cst (.int 0)))) (.cons (.cst (.int 0)) .nil))))
    .nil)⟩
def ThingsD_l0 : CE := .lc (.seq (.var 0)) [1] (.so (.cmp .ne (.var 1) (.cst (.int (-1))))) (.var 1)
/-- things_of(row), slots 0=row 1=one; calls  -/
def ThingsD : Def := ⟨1, 2,
    (.cons (.ret (.blt .tuple (.cons (.blt .sorted (.cons ThingsD_l0 .nil)) .nil)))
    .nil)⟩
def ArrD_l0 : CE := .lc (.seq (.var 1)) [2] .no (.idxV 0 (.var 2))
/-- arranged(row, order), slots 0=row 1=order 2=at; calls  -/
def ArrD : Def := ⟨2, 3,
    (.cons (.ret (.blt .tuple (.cons ArrD_l0 .nil)))
    .nil)⟩
/-- step(rule, state, thing), slots 0=rule 1=state 2=thing 3=row 4=label 5=hits 6=out 7=comes 8=order 9=later 10=place 11=gone 12=filled; calls c_arranged -/
def StepD (c_arranged : Nat) : Def := ⟨3, 13,
    (.cons (.asgT [3, 4] (.var 1))
    (.cons (.asgT [5, 6, 7] (.idx (.idxV 0 (.cst (.int 1))) (.var 4)))
    (.cons (.ifs (.cmp .in_ (.var 2) (.var 3))
    (.cons (.asgT [8, 9] (.idxV 5 (.mth .index (.var 3) (.cons (.var 2) .nil))))
    (.cons (.ret (.tup (.cons (.cst (.bl true)) (.cons (.cst (.non)) (.cons (.tup (.cons (.call c_arranged (.cons (.var 3) (.cons (.var 8) .nil))) (.cons (.var 9) .nil))) .nil)))))
    .nil))
    .nil)
    (.cons (.asg 10 (.ite (.cmp .in_ (.cst (.int (-1))) (.var 3)) (.mth .index (.var 3) (.cons (.cst (.int (-1))) .nil)) (.var 6)))
    (.cons (.asg 11 (.ite (.cmp .eq (.idxV 3 (.var 10)) (.cst (.int (-1)))) (.cst (.non)) (.idxV 3 (.var 10))))
    (.cons (.asgT [8, 9] (.idxV 7 (.var 10)))
    (.cons (.asg 12 (.bin .add (.bin .add (.slc (.var 3) .no (.so (.var 10))) (.tup (.cons (.var 2) .nil))) (.slc (.var 3) (.so (.bin .add (.var 10) (.cst (.int 1)))) .no)))
    (.cons (.ret (.tup (.cons (.cst (.bl false)) (.cons (.var 11) (.cons (.tup (.cons (.call c_arranged (.cons (.var 12) (.cons (.var 8) .nil))) (.cons (.var 9) .nil))) .nil)))))
    .nil))))))))⟩
def ReqD_l0 (c_is_thing : Nat) : CE := .lc (.seq (.var 0)) [1] .no (.call c_is_thing (.cons (.var 1) .nil))
/-- is_requests(thing), slots 0=thing 1=one; calls c_is_thing -/
def ReqD (c_is_thing : Nat) : Def := ⟨1, 2,
    (.cons (.ifs (.or (.not (.isiV 0 "tuple")) (.cmp .gt (.bltV .len 0) (.cst (.int 60))))
    (.cons (.ret (.cst (.bl false)))
    .nil)
    .nil)
    (.cons (.ret (.blt .all (.cons (ReqD_l0 c_is_thing) .nil)))
    .nil))⟩
/-- need_requests(requests), slots 0=requests; calls c_is_requests x_NoRequests -/
def NeedReqD (c_is_requests : Nat) (x_NoRequests : CS) : Def := ⟨1, 1,
    (.cons (.ifs (.not (.call c_is_requests (.cons (.var 0) .nil)))
    (.cons x_NoRequests
    .nil)
    .nil)
    .nil)⟩
def RunD_b0 (c_step c_first_state : Nat) : CSs := 
    (.cons (.asgT [6, 7, 2] (.call c_step (.cons (.var 0) (.cons (.var 2) (.cons (.var 5) .nil)))))
    (.cons (.exp (.app 3 (.var 6)))
    (.cons (.exp (.app 4 (.var 7)))
    .nil)))
def RunD_f0 (c_step c_first_state : Nat) : CS := .for_ [5] (.seq (.var 1)) (RunD_b0 c_step c_first_state)
/-- run_of(rule, requests), slots 0=rule 1=requests 2=state 3=found 4=lost 5=thing 6=is_hit 7=away; calls c_step c_first_state -/
def RunD (c_step c_first_state : Nat) : Def := ⟨2, 8,
    (.cons (.par [2, 3, 4] (.cons (.call c_first_state (.cons (.var 0) .nil)) (.cons (.lst .nil) (.cons (.lst .nil) .nil))))
    (.cons (RunD_f0 c_step c_first_state)
    (.cons (.ret (.tup (.cons (.var 2) (.cons (.bltV .tuple 3) (.cons (.bltV .tuple 4) .nil)))))
    .nil)))⟩
/-- checked_run(rule, requests), slots 0=rule 1=requests; calls c_run_of c_need_requests c_need_rule -/
def CheckedD (c_run_of c_need_requests c_need_rule : Nat) : Def := ⟨2, 2,
    (.cons (.exp (.call c_need_rule (.cons (.var 0) .nil)))
    (.cons (.exp (.call c_need_requests (.cons (.var 1) .nil)))
    (.cons (.ret (.call c_run_of (.cons (.var 0) (.cons (.var 1) .nil))))
    .nil)))⟩
/-- behind(rule, requests), slots 0=rule 1=requests; calls c_checked_run -/
def BehindD (c_checked_run : Nat) : Def := ⟨2, 2,
    (.cons (.ret (.idx (.call c_checked_run (.cons (.var 0) (.cons (.var 1) .nil))) (.cst (.int 0))))
    .nil)⟩
/-- kept(rule, requests), slots 0=rule 1=requests; calls c_things_of c_behind -/
def KeptD (c_things_of c_behind : Nat) : Def := ⟨2, 2,
    (.cons (.ret (.call c_things_of (.cons (.idx (.call c_behind (.cons (.var 0) (.cons (.var 1) .nil))) (.cst (.int 0))) .nil)))
    .nil)⟩
/-- hits(rule, requests), slots 0=rule 1=requests; calls c_checked_run -/
def HitsD (c_checked_run : Nat) : Def := ⟨2, 2,
    (.cons (.ret (.idx (.call c_checked_run (.cons (.var 0) (.cons (.var 1) .nil))) (.cst (.int 1))))
    .nil)⟩
/-- misses(rule, requests), slots 0=rule 1=requests; calls c_hits -/
def MissesD (c_hits : Nat) : Def := ⟨2, 2,
    (.cons (.ret (.mth .count (.call c_hits (.cons (.var 0) (.cons (.var 1) .nil))) (.cons (.cst (.bl false)) .nil)))
    .nil)⟩
/-- gone(rule, requests), slots 0=rule 1=requests; calls c_checked_run -/
def GoneD (c_checked_run : Nat) : Def := ⟨2, 2,
    (.cons (.ret (.idx (.call c_checked_run (.cons (.var 0) (.cons (.var 1) .nil))) (.cst (.int 2))))
    .nil)⟩
def LAskD_l0 : CE := .lc (.seq (.var 10)) [15] .no (.idxV 14 (.var 15))
def LAskD_l1 : CE := .lc (.seq (.var 10)) [15] .no (.idxV 3 (.var 15))
/-- _law_asked(_law_rule_here, _law_state, _law_thing), slots 0=_law_rule_here 1=_law_state 2=_law_thing 3=_law_row 4=_law_label 5=_law_places 6=_law_rows 7=_law_at_hits 8=_law_out 9=_law_at_comes 10=_law_order 11=_law_later 12=_law_place 13=_law_lost 14=_law_other 15=_law_at; calls  -/
def LAskD : Def := ⟨3, 16,
    (.cons (.asgN [[3, 4], [5, 6]] (.tup (.cons (.var 1) (.cons (.var 0) .nil))))
    (.cons (.asgT [7, 8, 9] (.idxV 6 (.var 4)))
    (.cons (.ifs (.cmp .in_ (.var 2) (.var 3))
    (.cons (.asgT [10, 11] (.idxV 7 (.mth .index (.var 3) (.cons (.var 2) .nil))))
    (.cons (.ret (.tup (.cons (.cst (.bl true)) (.cons (.cst (.non)) (.cons (.tup (.cons (.blt .tuple (.cons LAskD_l1 .nil)) (.cons (.var 11) .nil))) .nil)))))
    .nil))
    .nil)
    (.cons (.asg 12 (.ite (.cmp .in_ (.neg (.cst (.int 1))) (.var 3)) (.mth .index (.var 3) (.cons (.neg (.cst (.int 1))) .nil)) (.var 8)))
    (.cons (.asg 13 (.ite (.cmp .eq (.idxV 3 (.var 12)) (.neg (.cst (.int 1)))) (.cst (.non)) (.idxV 3 (.var 12))))
    (.cons (.asgT [10, 11] (.idxV 9 (.var 12)))
    (.cons (.asg 14 (.bin .add (.bin .add (.slc (.var 3) .no (.so (.var 12))) (.tup (.cons (.var 2) .nil))) (.slc (.var 3) (.so (.bin .add (.var 12) (.cst (.int 1)))) .no)))
    (.cons (.ret (.tup (.cons (.cst (.bl false)) (.cons (.var 13) (.cons (.tup (.cons (.blt .tuple (.cons LAskD_l0 .nil)) (.cons (.var 11) .nil))) .nil)))))
    .nil))))))))⟩
/-- _law_first(_law_rule_here), slots 0=_law_rule_here; calls  -/
def LFirstD : Def := ⟨1, 1,
    (.cons (.ret (.tup (.cons (.bin .mul (.tup (.cons (.neg (.cst (.int 1))) .nil)) (.idxV 0 (.cst (.int 0)))) (.cons (.cst (.int 0)) .nil))))
    .nil)⟩
def LDoneD_b0 (c_law_asked c_law_first : Nat) : CSs := 
    (.cons (.asgT [6, 7, 8] (.call c_law_asked (.cons (.var 0) (.cons (.idxV 2 (.neg (.cst (.int 1)))) (.cons (.var 5) .nil)))))
    (.cons (.exp (.app 2 (.var 8)))
    (.cons (.exp (.app 3 (.var 6)))
    (.cons (.exp (.app 4 (.var 7)))
    .nil))))
def LDoneD_f0 (c_law_asked c_law_first : Nat) : CS := .for_ [5] (.seq (.var 1)) (LDoneD_b0 c_law_asked c_law_first)
/-- _law_done(_law_rule_here, _law_wishes_here), slots 0=_law_rule_here 1=_law_wishes_here 2=_law_states 3=_law_was_hit 4=_law_lost 5=_law_thing 6=_law_is_hit 7=_law_away 8=_law_state; calls c_law_asked c_law_first -/
def LDoneD (c_law_asked c_law_first : Nat) : Def := ⟨2, 9,
    (.cons (.par [2, 3, 4] (.cons (.lst (.cons (.call c_law_first (.cons (.var 0) .nil)) .nil)) (.cons (.lst .nil) (.cons (.lst .nil) .nil))))
    (.cons (LDoneD_f0 c_law_asked c_law_first)
    (.cons (.ret (.tup (.cons (.var 2) (.cons (.bltV .tuple 3) (.cons (.bltV .tuple 4) .nil)))))
    .nil)))⟩
def LThingsD_l0 : CE := .lc (.seq (.var 0)) [1] (.so (.cmp .ne (.var 1) (.neg (.cst (.int 1))))) (.var 1)
/-- _law_things(_law_row), slots 0=_law_row 1=_law_one; calls  -/
def LThingsD : Def := ⟨1, 2,
    (.cons (.ret (.blt .tuple (.cons (.blt .sorted (.cons LThingsD_l0 .nil)) .nil)))
    .nil)⟩
def WishesD_l0 (c_law_draw c_law_pick c_law_mixed : Nat) : CE := .lc (.rng .no (.call c_law_draw (.cons (.var 0) (.cons (.bin .add (.var 1) (.cst (.int 1))) .nil)))) [4] .no (.call c_law_pick (.cons (.var 0) (.cons (.var 3) .nil)))
/-- _law_wishes(_law_pen_here, _law_most, _law_many), slots 0=_law_pen_here 1=_law_most 2=_law_many 3=_law_names 4=_law_turn; calls c_law_draw c_law_pick c_law_mixed -/
def WishesD (c_law_draw c_law_pick c_law_mixed : Nat) : Def := ⟨3, 5,
    (.cons (.asg 3 (.slc (.call c_law_mixed (.cons (.var 0) (.cons (.lst (.cons (.cst (.int 0)) (.cons (.cst (.int 1)) (.cons (.cst (.int 2)) (.cons (.cst (.int 3)) (.cons (.cst (.int 4)) (.cons (.cst (.int 5)) (.cons (.cst (.int 6)) (.cons (.cst (.int 7)) (.cons (.cst (.int 8)) (.cons (.cst (.int 9)) (.cons (.cst (.int 50)) (.cons (.cst (.int 98)) (.cons (.cst (.int 99)) .nil)))))))))))))) .nil))) .no (.so (.bin .add (.cst (.int 1)) (.call c_law_draw (.cons (.var 0) (.cons (.var 2) .nil)))))))
    (.cons (.ret (.blt .tuple (.cons (WishesD_l0 c_law_draw c_law_pick c_law_mixed) .nil)))
    .nil))⟩
/-- need_thing(thing), slots 0=thing; calls c_is_thing x_NoThing -/
def NeedThingD (c_is_thing : Nat) (x_NoThing : CS) : Def := ⟨1, 1,
    (.cons (.ifs (.not (.call c_is_thing (.cons (.var 0) .nil)))
    (.cons x_NoThing
    .nil)
    .nil)
    .nil)⟩
def IsRowD_l0 (c_is_whole : Nat) : CE := .lc (.seq (.var 0)) [2] .no (.or (.cmp .eq (.var 2) (.cst (.int (-1)))) (.cmp .eq (.mth .count (.var 0) (.cons (.var 2) .nil)) (.cst (.int 1))))
def IsRowD_l1 (c_is_whole : Nat) : CE := .lc (.seq (.var 0)) [2] .no (.call c_is_whole (.cons (.var 2) (.cons (.cst (.int (-1))) (.cons (.cst (.int 99)) .nil))))
/-- is_row(thing, places), slots 0=thing 1=places 2=one; calls c_is_whole -/
def IsRowD (c_is_whole : Nat) : Def := ⟨2, 3,
    (.cons (.ifs (.or (.not (.isiV 0 "tuple")) (.cmp .ne (.bltV .len 0) (.var 1)))
    (.cons (.ret (.cst (.bl false)))
    .nil)
    .nil)
    (.cons (.ifs (.not (.blt .all (.cons (IsRowD_l1 c_is_whole) .nil)))
    (.cons (.ret (.cst (.bl false)))
    .nil)
    .nil)
    (.cons (.ret (.blt .all (.cons (IsRowD_l0 c_is_whole) .nil)))
    .nil)))⟩
/-- is_state_of(rule, thing), slots 0=rule 1=thing; calls c_is_row c_is_whole -/
def StateOfD (c_is_row c_is_whole : Nat) : Def := ⟨2, 2,
    (.cons (.ifs (.or (.not (.isiV 1 "tuple")) (.cmp .ne (.bltV .len 1) (.cst (.int 2))))
    (.cons (.ret (.cst (.bl false)))
    .nil)
    .nil)
    (.cons (.ret (.and (.call c_is_row (.cons (.idxV 1 (.cst (.int 0))) (.cons (.idxV 0 (.cst (.int 0))) .nil))) (.call c_is_whole (.cons (.idxV 1 (.cst (.int 1))) (.cons (.cst (.int 0)) (.cons (.bin .sub (.blt .len (.cons (.idxV 0 (.cst (.int 1))) .nil)) (.cst (.int 1))) .nil))))))
    .nil))⟩
/-- asked(rule, state, thing), slots 0=rule 1=state 2=thing; calls c_step c_need_thing c_is_state_of c_need_rule x_NoState -/
def AskedD (c_step c_need_thing c_is_state_of c_need_rule : Nat) (x_NoState : CS) : Def := ⟨3, 3,
    (.cons (.exp (.call c_need_rule (.cons (.var 0) .nil)))
    (.cons (.ifs (.not (.call c_is_state_of (.cons (.var 0) (.cons (.var 1) .nil))))
    (.cons x_NoState
    .nil)
    .nil)
    (.cons (.exp (.call c_need_thing (.cons (.var 2) .nil)))
    (.cons (.ret (.call c_step (.cons (.var 0) (.cons (.var 1) (.cons (.var 2) .nil)))))
    .nil))))⟩
def LStateD_l0 (c_law_draw c_law_mixed : Nat) : CE := .lc (.seq (.var 2)) [4] .no (.ite (.and (.cmp .eq (.var 3) (.cst (.int 0))) (.cmp .eq (.call c_law_draw (.cons (.var 0) (.cons (.cst (.int 2)) .nil))) (.cst (.int 0)))) (.neg (.cst (.int 1))) (.var 4))
/-- _law_state(_law_pen_here, _law_rule_here), slots 0=_law_pen_here 1=_law_rule_here 2=_law_row 3=_law_blank 4=_law_one; calls c_law_draw c_law_mixed -/
def LStateD (c_law_draw c_law_mixed : Nat) : Def := ⟨2, 5,
    (.cons (.asg 2 (.slc (.call c_law_mixed (.cons (.var 0) (.cons (.lst (.cons (.cst (.int 0)) (.cons (.cst (.int 1)) (.cons (.cst (.int 2)) (.cons (.cst (.int 3)) (.cons (.cst (.int 4)) (.cons (.cst (.int 5)) (.cons (.cst (.int 6)) (.cons (.cst (.int 98)) (.cons (.cst (.int 99)) .nil)))))))))) .nil))) .no (.so (.idxV 1 (.cst (.int 0))))))
    (.cons (.asg 3 (.call c_law_draw (.cons (.var 0) (.cons (.cst (.int 3)) .nil))))
    (.cons (.asg 2 (LStateD_l0 c_law_draw c_law_mixed))
    (.cons (.ret (.tup (.cons (.bltV .tuple 2) (.cons (.call c_law_draw (.cons (.var 0) (.cons (.blt .len (.cons (.idxV 1 (.cst (.int 1))) .nil)) .nil))) .nil))))
    .nil))))⟩
/-- beginning(rule), slots 0=rule; calls c_first_state c_need_rule -/
def BeginD (c_first_state c_need_rule : Nat) : Def := ⟨1, 1,
    (.cons (.exp (.call c_need_rule (.cons (.var 0) .nil)))
    (.cons (.ret (.call c_first_state (.cons (.var 0) .nil)))
    .nil))⟩
/-- is_state(rule, thing), slots 0=rule 1=thing; calls c_is_state_of c_need_rule -/
def IsStateD (c_is_state_of c_need_rule : Nat) : Def := ⟨2, 2,
    (.cons (.exp (.call c_need_rule (.cons (.var 0) .nil)))
    (.cons (.ret (.call c_is_state_of (.cons (.var 0) (.cons (.var 1) .nil))))
    .nil))⟩
end Gz
/-! Rules and states as data of their own; ints in lists. -/
namespace Gz
open PySem L2
/-! ### ints in lists -/
def iV (ns : List Int) : List Val := ns.map .int
def nV (ns : List Nat) : List Val := ns.map fun n : Nat => .int (n : Int)
@[simp] theorem iV_len (ns : List Int) : (iV ns).length = ns.length := List.length_map ..
@[simp] theorem nV_len (ns : List Nat) : (nV ns).length = ns.length := List.length_map ..
theorem elEqs_ints (t : Int) (ns : List Int) : elEqs (.int t) (iV ns) = some (ns.map (· == t)) := by
  induction ns with
  | nil => rfl
  | cons n ns ih =>
    have e : elEq (.int n) (.int t) = some (n == t) := rfl
    show elEqs (.int t) (.int n :: iV ns) = _
    rw [elEqs, e, ih]; rfl
theorem any_id (t : Int) (ns : List Int) : (ns.map (· == t)).any id = decide (t ∈ ns) := by
  induction ns with
  | nil => rfl
  | cons n ns ih =>
    rw [List.map_cons, List.any_cons, ih]
    by_cases h : n = t
    · subst h; simp
    · have : (n == t) = false := beq_eq_false_iff_ne.mpr h
      rw [id, this, Bool.false_or]
      simp [Ne.symm h]
theorem isin_ints (t : Int) (ns : List Int) : isin (.int t) (.tup (iV ns)) = some (decide (t ∈ ns)) := by
  show (elEqs (.int t) (iV ns)).map _ = _
  rw [elEqs_ints, Option.map_some, any_id]
theorem isin_intsL (t : Int) (ns : List Int) : isin (.int t) (.lst (iV ns)) = some (decide (t ∈ ns)) := by
  show (elEqs (.int t) (iV ns)).map _ = _
  rw [elEqs_ints, Option.map_some, any_id]
theorem find_ints {t : Int} {ns : List Int} (h : t ∈ ns) : (ns.map (· == t)).findIdx? id = some (ns.idxOf t) := by
  induction ns with
  | nil => simp at h
  | cons n ns ih =>
    rw [List.map_cons, List.findIdx?_cons, List.idxOf_cons]
    by_cases e : n = t
    · subst e; simp
    · have hb : (n == t) = false := beq_eq_false_iff_ne.mpr e
      rw [id, hb]
      have : t ∈ ns := (List.mem_cons.mp h).resolve_left (Ne.symm e)
      simp [ih this]
theorem mth_index {t : Int} {ns : List Int} (h : t ∈ ns) : mthop .index (.tup (iV ns)) [.int t] = some (.int (ns.idxOf t : Nat)) := by
  show seqMt .index (iV ns) (.int t) = _
  unfold seqMt
  rw [elEqs_ints]
  dsimp only
  rw [find_ints h]; rfl
theorem mth_indexL {t : Int} {ns : List Int} (h : t ∈ ns) : mthop .index (.lst (iV ns)) [.int t] = some (.int (ns.idxOf t : Nat)) := mth_index h
theorem mth_count (t : Int) (ns : List Int) : mthop .count (.tup (iV ns)) [.int t] = some (.int (ns.count t : Nat)) := by
  show seqMt .count (iV ns) (.int t) = _
  unfold seqMt
  rw [elEqs_ints]
  dsimp only
  rw [List.countP_map]; rfl
theorem atI_iV {ns : List Int} {j : Nat} (h : j < ns.length) : atI (iV ns) (j : Int) = some (.int ns[j]) := by
  have e : (iV ns)[j]? = some (.int ns[j]) := by unfold iV; rw [List.getElem?_map, List.getElem?_eq_getElem h]; rfl
  exact atI_nat e
theorem atI_get {xs : List Val} {j : Nat} {v : Val} (h : xs[j]? = some v) : atI xs (j : Int) = some v := atI_nat h
/-! ### rules -/
structure Mv where
  ord : List Nat
  to : Nat
  deriving Inhabited
structure Lr where
  hits : List Mv
  out : Nat
  comes : List Mv
  deriving Inhabited
structure Ru where
  p : Nat
  rows : List Lr
def Mv.v (m : Mv) : Val := .tup [.tup (nV m.ord), .int m.to]
def Lr.v (r : Lr) : Val := .tup [.tup (r.hits.map Mv.v), .int r.out, .tup (r.comes.map Mv.v)]
def Ru.v (r : Ru) : Val := .tup [.int r.p, .tup (r.rows.map Lr.v)]
def Mv.ok (p l : Nat) (m : Mv) : Prop := m.ord.Perm (List.range p) ∧ m.to < l
def Lr.ok (p l : Nat) (r : Lr) : Prop := (r.hits.length = p ∧ ∀ m ∈ r.hits, m.ok p l) ∧ r.out < p ∧ (r.comes.length = p ∧ ∀ m ∈ r.comes, m.ok p l)
structure Ru.ok (r : Ru) : Prop where
  p1 : 1 ≤ r.p
  p4 : r.p ≤ 4
  l1 : 1 ≤ r.rows.length
  l16 : r.rows.length ≤ 16
  rw : ∀ x ∈ r.rows, x.ok r.p r.rows.length
theorem isPerm_nat {ns : List Int} {p : Nat} (h : ns.Perm (rngI 0 p)) : ∃ ms : List Nat, ns = ms.map (fun n : Nat => (n : Int)) ∧ ms.Perm (List.range p) := by
  have e : ∀ n ∈ ns, ∃ m : Nat, n = m := fun n hn => by
    have := rng_mem.mp (h.mem_iff.mp hn)
    exact ⟨n.toNat, by omega⟩
  obtain ⟨ms, rfl⟩ : ∃ ms : List Nat, ns = ms.map (fun n : Nat => (n : Int)) := by
    clear h
    induction ns with
    | nil => exact ⟨[], rfl⟩
    | cons n ns ih =>
      obtain ⟨m, rfl⟩ := e n List.mem_cons_self
      obtain ⟨ms, rfl⟩ := ih fun x hx => e x (List.mem_cons_of_mem _ hx)
      exact ⟨m :: ms, rfl⟩
  refine ⟨ms, rfl, ?_⟩
  have h2 := h.map Int.toNat
  rw [List.map_map] at h2
  have e1 : (Int.toNat ∘ fun n : Nat => (n : Int)) = id := by funext n; simp
  rw [e1, List.map_id] at h2
  refine h2.trans ?_
  unfold rngI
  rw [List.map_map]
  have e2 : (Int.toNat ∘ fun i : Nat => (0 : Int) + (i : Int)) = id := by funext n; simp
  rw [e2, List.map_id]
  simp
theorem isMove_mv {p l : Nat} {v : Val} (h : isMove p l v = true) : ∃ m : Mv, v = m.v ∧ m.ok p l := by
  unfold isMove at h
  split at h
  · rename_i a b
    rw [Bool.and_eq_true] at h
    obtain ⟨h1, h2⟩ := h
    unfold isOrd at h1
    split at h1
    · split at h1
      · rename_i ns e
        obtain rfl := ints_eq e
        obtain ⟨ms, rfl, pm⟩ := isPerm_nat (List.isPerm_iff.mp h1)
        cases b with
        | int j =>
          simp only [isW, Bool.and_eq_true, decide_eq_true_eq] at h2
          refine ⟨⟨ms, j.toNat⟩, ?_, pm, by simp only; omega⟩
          unfold Mv.v nV
          rw [List.map_map]
          have : ((j.toNat : Nat) : Int) = j := by omega
          rw [this]; rfl
        | _ => cases h2
      · cases h1
    · cases h1
  · cases h
theorem map_ex {α : Type} {f : α → Val} {P : α → Prop} {xs : List Val} (h : ∀ x ∈ xs, ∃ a, x = f a ∧ P a) : ∃ as : List α, xs = as.map f ∧ ∀ a ∈ as, P a := by
  induction xs with
  | nil => exact ⟨[], rfl, by simp⟩
  | cons x xs ih =>
    obtain ⟨a, rfl, ha⟩ := h x List.mem_cons_self
    obtain ⟨as, rfl, hp⟩ := ih fun y hy => h y (List.mem_cons_of_mem _ hy)
    refine ⟨a :: as, rfl, fun b hb => ?_⟩
    rcases List.mem_cons.mp hb with rfl | hb
    · exact ha
    · exact hp b hb
theorem areMoves_mv {p l : Nat} {v : Val} (h : areMoves p l v = true) : ∃ ms : List Mv, v = .tup (ms.map Mv.v) ∧ ms.length = p ∧ ∀ m ∈ ms, m.ok p l := by
  unfold areMoves at h
  split at h
  · rw [Bool.and_eq_true, decide_eq_true_eq, List.all_eq_true] at h
    obtain ⟨ms, rfl, hm⟩ := map_ex fun x hx => isMove_mv (h.2 x hx)
    refine ⟨ms, rfl, ?_, hm⟩
    have := h.1
    rw [List.length_map] at this
    omega
  · cases h
theorem isRow_lr {p l : Nat} {v : Val} (h : isRow p l v = true) : ∃ r : Lr, v = r.v ∧ r.ok p l := by
  unfold isRow at h
  split at h
  · rename_i a o c
    rw [Bool.and_eq_true, Bool.and_eq_true] at h
    obtain ⟨h1, h2, h3⟩ := h
    obtain ⟨hs, rfl, q1, q2⟩ := areMoves_mv h1
    obtain ⟨cs, rfl, q3, q4⟩ := areMoves_mv h3
    cases o with
    | int j =>
      simp only [isW, Bool.and_eq_true, decide_eq_true_eq] at h2
      refine ⟨⟨hs, j.toNat, cs⟩, ?_, ⟨q1, q2⟩, by simp only; omega, q3, q4⟩
      unfold Lr.v
      have : ((j.toNat : Nat) : Int) = j := by omega
      rw [this]
    | _ => cases h2
  · cases h
theorem isRule_ru {v : Val} (h : isRule v = true) : ∃ r : Ru, v = r.v ∧ r.ok := by
  unfold isRule at h
  split at h
  · rename_i p rows
    simp only [Bool.and_eq_true, decide_eq_true_eq, List.all_eq_true] at h
    obtain ⟨⟨h1, h2⟩, ⟨h3, h4⟩, h5⟩ := h
    obtain ⟨q, rfl⟩ : ∃ q : Nat, p = q := ⟨p.toNat, by omega⟩
    obtain ⟨rs, rfl, hr⟩ := map_ex fun x hx => isRow_lr (h5 x hx)
    rw [List.length_map] at h3 h4 hr
    exact ⟨⟨q, rs⟩, rfl, by simp only; omega, by simp only; omega, h3, h4, hr⟩
  · cases h
/-! and back -/
theorem perm_rng {ms : List Nat} {p : Nat} (h : ms.Perm (List.range p)) : (ms.map fun n : Nat => (n : Int)).Perm (rngI 0 p) := by
  have := h.map fun n : Nat => (n : Int)
  refine this.trans ?_
  unfold rngI
  simp
theorem Mv.ok.is {p l : Nat} {m : Mv} (h : m.ok p l) : MvOk p l m.v := ⟨m.ord.map fun n : Nat => (n : Int), m.to, by unfold Mv.v nV; rw [List.map_map]; rfl, perm_rng h.1, by omega, by have := h.2; omega⟩
theorem mvs_is {p l : Nat} {ms : List Mv} (hl : ms.length = p) (h : ∀ m ∈ ms, m.ok p l) : MvsOk p l (.tup (ms.map Mv.v)) :=
  ⟨_, rfl, by rw [List.length_map, hl], fun x hx => by obtain ⟨m, hm, rfl⟩ := List.mem_map.mp hx; exact (h m hm).is⟩
theorem Lr.ok.is {p l : Nat} {r : Lr} (h : r.ok p l) : RwOk p l r.v := ⟨_, r.out, _, rfl, mvs_is h.1.1 h.1.2, mvs_is h.2.2.1 h.2.2.2, by omega, by have := h.2.1; omega⟩
theorem Ru.ok.is {r : Ru} (h : r.ok) : RuOk r.p r.rows.length r.v := ⟨_, rfl, by rw [List.length_map], fun x hx => by obtain ⟨m, hm, rfl⟩ := List.mem_map.mp hx; exact (h.rw m hm).is⟩
theorem Ru.ok.isRule {r : Ru} (h : r.ok) : isRule r.v = true := h.is.is (by have := h.p1; omega) (by have := h.p4; omega) (by have := h.l1; omega) (by have := h.l16; omega)
theorem Ru.ok.fine {r : Ru} (h : r.ok) : Gz.fine r.v = true ∧ dp r.v ≤ 6 ∧ wt r.v ≤ 2000000 := by
  have p4 := h.p4
  have l16 := h.l16
  obtain ⟨h1, h2, h3⟩ := h.is.fine (by omega) (by omega) (by omega)
  have e : ((r.rows.length : Nat) : Int).toNat = r.rows.length := by omega
  rw [e] at h3
  have : r.rows.length * 123002 ≤ 16 * 123002 := Nat.mul_le_mul_right _ l16
  exact ⟨h1, h2, by omega⟩
/-- what ruleG draws -/
theorem drawn_ru {v : Val} {l : Int} (hl : l ≤ 16) (h : NamedOk v ∨ ∃ p q, 1 ≤ p ∧ p ≤ 4 ∧ 1 ≤ q ∧ q ≤ l ∧ RuOk p q v) : ∃ r : Ru, v = r.v ∧ r.ok := by
  refine isRule_ru ?_
  rcases h with h | ⟨p, q, a1, a2, a3, a4, h⟩
  · exact h.is.1
  · exact h.is a1 a2 a3 (by omega)
end Gz
/-! States; what asking for a thing does. -/
namespace Gz
open PySem L2
@[simp] theorem at2_0 {a b : Val} : atI [a, b] 0 = some a := rfl
@[simp] theorem at2_1 {a b : Val} : atI [a, b] 1 = some b := rfl
@[simp] theorem at3_0 {a b c : Val} : atI [a, b, c] 0 = some a := rfl
@[simp] theorem at3_1 {a b c : Val} : atI [a, b, c] 1 = some b := rfl
@[simp] theorem at3_2 {a b c : Val} : atI [a, b, c] 2 = some c := rfl
@[simp] theorem c_in {v w : Val} : cmpop .in_ v w = isin v w := rfl
@[simp] theorem c_notin {v w : Val} : cmpop .notin v w = (isin v w).map (!·) := rfl
theorem atI_map {α : Type} [Inhabited α] {f : α → Val} {xs : List α} {j : Nat} (h : j < xs.length) : atI (xs.map f) (j : Int) = some (f (xs.getD j default)) := by
  refine atI_nat ?_
  rw [List.getElem?_map, List.getElem?_eq_getElem h, List.getD_eq_getElem?_getD, List.getElem?_eq_getElem h]; rfl
theorem getD_mem {α : Type} {d : α} {xs : List α} {j : Nat} (h : j < xs.length) : xs.getD j d ∈ xs := by
  rw [List.getD_eq_getElem?_getD, List.getElem?_eq_getElem h]
  exact List.getElem_mem h
/-! ### states -/
def sV (row : List Int) (lab : Nat) : Val := .tup [.tup (iV row), .int lab]
structure StOk (r : Ru) (row : List Int) (lab : Nat) : Prop where
  len : row.length = r.p
  bd : ∀ x ∈ row, -1 ≤ x ∧ x ≤ 99
  one : ∀ x ∈ row, x ≠ -1 → row.count x = 1
  lab : lab < r.rows.length
theorem iV_fine {ns : List Int} (h : ∀ n ∈ ns, -(10 ^ 20) ≤ n ∧ n ≤ 10 ^ 20) : fine (.tup (iV ns)) = true ∧ dp (.tup (iV ns)) ≤ 1 ∧ wt (.tup (iV ns)) = ns.length * 1923 + 3 := by
  obtain ⟨h1, h2, h3⟩ := ints_fine h
  refine ⟨by rw [fine]; exact h1, by rw [dp]; show dps (ns.map .int) + 1 ≤ 1; rw [h2]; omega, by rw [wt]; show wts (ns.map .int) + 3 = _; rw [h3]⟩
theorem StOk.fine {r : Ru} (hr : r.ok) {row : List Int} {lab : Nat} (h : StOk r row lab) : Gz.fine (sV row lab) = true ∧ dp (sV row lab) ≤ 2 ∧ wt (sV row lab) ≤ 20000 := by
  have p4 := hr.p4
  have l16 := hr.l16
  have hl := h.lab
  have len := h.len
  obtain ⟨h1, h2, h3⟩ := iV_fine (ns := row) fun n hn => by have := h.bd n hn; omega
  unfold sV
  refine ⟨?_, ?_, ?_⟩
  · rw [Gz.fine, fines, h1, fines, fine_i (by omega) (by omega)]; rfl
  · rw [dp, dps, dps]
    have : dp (.int (lab : Int)) = 0 := rfl
    have : dps ([] : List Val) = 0 := rfl
    omega
  · rw [wt, wts, wts, h3]
    have : wt (.int (lab : Int)) = 1921 := rfl
    have : wts ([] : List Val) = 0 := rfl
    omega
/-- a row of so many places, as is_row looks -/
def isRw (p : Int) : Val → Bool
  | .tup xs => decide ((xs.length : Int) = p) && match ints? xs with
    | some ns => (ns.all fun x => decide (-1 ≤ x) && decide (x ≤ 99)) && (ns.all fun x => x == -1 || decide (ns.count x = 1))
    | none => false
  | _ => false
def isSt (p l : Int) : Val → Bool
  | .tup [a, b] => isRw p a && isW 0 (l - 1) b
  | _ => false
theorem isSt_of {r : Ru} {row : List Int} {lab : Nat} (h : StOk r row lab) : isSt r.p r.rows.length (sV row lab) = true := by
  unfold sV
  rw [isSt, isRw, iV_len, h.len]
  have : ints? (iV row) = some row := ints_map row
  rw [this]
  dsimp only
  have hl := h.lab
  simp only [decide_true, Bool.true_and, isW, Bool.and_eq_true, decide_eq_true_eq, List.all_eq_true, Bool.or_eq_true, beq_iff_eq]
  exact ⟨⟨fun x hx => h.bd x hx, fun x hx => (Decidable.em (x = -1)).imp id (h.one x hx)⟩, by omega, by omega⟩
section
variable {T : List Def} {k nw nu nrw na ns : Nat} {s : Sto}
theorem isRowL1 (hW : T[nw]? = some WholeD) {xs : List Val} {p : Int} (hx : ∀ x ∈ xs, fine x = true) (hl : xs.length ≤ 1000) : evE (callN T (k + 1)) (IsRowD_l1 nw) [some (.val (.tup xs)), some (.val (.int p)), none] s = .ok (.fr (xs.map fun x => .bl (isW (-1) 99 x))) [some (.val (.tup xs)), some (.val (.int p)), none] s := by
  unfold IsRowD_l1
  rw [ev_lc]
  have e : evI (callN T (k + 1)) (.seq (.var 0)) [some (.val (.tup xs)), some (.val (.int p)), none] s = .ok xs [some (.val (.tup xs)), some (.val (.int p)), none] s := by simp -implicitDefEqProofs
  rw [e, bind_ok, lc_map (g := fun x => .bl (isW (-1) 99 x)) [] (by have := le_line (n := xs.length) hl; simpa using this) ?_]
  · simp
  · intro x hx'
    simp -implicitDefEqProofs [turnF, whole hW (hx x hx')]
theorem isRowL0 {F : FT} {ns : List Int} {p : Int} (hl : ns.length ≤ 1000) : evE F (IsRowD_l0 nw) [some (.val (.tup (iV ns))), some (.val (.int p)), none] s = .ok (.fr ((iV ns).map fun x => .bl (match x with | .int i => i == -1 || decide (ns.count i = 1) | _ => false))) [some (.val (.tup (iV ns))), some (.val (.int p)), none] s := by
  unfold IsRowD_l0
  rw [ev_lc]
  have e : evI F (.seq (.var 0)) [some (.val (.tup (iV ns))), some (.val (.int p)), none] s = .ok (iV ns) [some (.val (.tup (iV ns))), some (.val (.int p)), none] s := by simp -implicitDefEqProofs
  rw [e, bind_ok, lc_map (g := fun x => .bl (match x with | .int i => i == -1 || decide (ns.count i = 1) | _ => false)) [] (by have := le_line (n := ns.length) hl; simpa using this) ?_]
  · simp
  · intro x hx'
    obtain ⟨i, _, rfl⟩ := List.mem_map.mp hx'
    have c := mth_count i ns
    cases h : (i == -1)
    · have e1 : ((ns.count i : Nat) : Int) == 1 ↔ ns.count i = 1 := by simp; omega
      have e2 : (((ns.count i : Nat) : Int) == 1) = decide (ns.count i = 1) := by
        by_cases z : ns.count i = 1
        · rw [decide_eq_true z]; exact e1.mpr z
        · rw [decide_eq_false z]; exact Bool.eq_false_iff.mpr fun q => z (e1.mp q)
      simp -implicitDefEqProofs [turnF, c, h, e2]
    · simp -implicitDefEqProofs [turnF, c, h]
theorem isrow (hW : T[nw]? = some WholeD) (hR : T[nrw]? = some (IsRowD nw)) {v : Val} {p : Int} (hv : fine v = true) (hp : p ≤ 1000) : callN T (k + 2) nrw [v, .int p] s = .ok (.val (.bl (isRw p v))) s := by
  rw [callN_eq hR]
  by_cases ht : ∃ xs, v = .tup xs
  · obtain ⟨xs, rfl⟩ := ht
    rw [fine, fines_iff] at hv
    by_cases hl : (xs.length : Int) = p
    · have l1 := isRowL1 (k := k) (s := s) hW (xs := xs) (p := p) hv (by omega)
      cases ha : xs.all (isW (-1) 99) with
      | false =>
        have e : isRw p (.tup xs) = false := by
          rw [isRw]
          cases e : ints? xs with
          | none => simp
          | some ns =>
            obtain rfl := ints_eq e
            have : (ns.all fun x => decide (-1 ≤ x) && decide (x ≤ 99)) = false := by
              rw [List.all_map] at ha
              exact ha
            simp [this]
        simp -implicitDefEqProofs [runD, IsRowD, isiv, hl, l1, bools_map, all_map, ha, e]
      | true =>
        obtain ⟨ns, rfl, hb⟩ := allW ha
        have l0 := isRowL0 (nw := nw) (F := callN T (k + 1)) (s := s) (ns := ns) (p := p) (by rw [List.length_map] at hl; omega)
        have e : isRw p (.tup (ns.map .int)) = ns.all fun x => x == -1 || decide (ns.count x = 1) := by
          rw [isRw, ints_map]
          dsimp only
          have : (ns.all fun x => decide (-1 ≤ x) && decide (x ≤ 99)) = true := by
            rw [List.all_eq_true]; intro x hx; have := hb x hx; simp; omega
          rw [this, decide_eq_true hl]; rfl
        have e2 : ((iV ns).all fun x => match x with | .int i => i == -1 || decide (ns.count i = 1) | _ => false) = ns.all fun x => x == -1 || decide (ns.count x = 1) := by
          unfold iV; rw [List.all_map]; rfl
        change evE _ _ [some (.val (.tup (iV ns))), _, none] s = _ at l1
        have l1' : evE (callN T (k + 1)) (IsRowD_l1 nw) [some (.val (.tup (iV ns))), some (.val (.int p)), none] s = .ok (.fr (List.replicate ns.length (.bl true))) [some (.val (.tup (iV ns))), some (.val (.int p)), none] s := by
          rw [l1, trues_of (List.all_eq_true.mp ha), List.length_map]; rfl
        change runD _ _ [.tup (iV ns), _] s = .ok (.val (.bl (isRw p (.tup (ns.map .int))))) s
        have hl' : (ns.length : Int) = p := by rw [List.length_map] at hl; exact hl
        rw [e]
        simp -implicitDefEqProofs [runD, IsRowD, isiv, hl', l1', l0, bools_rep, bools_map, all_map, e2]
    · have e : isRw p (.tup xs) = false := by rw [isRw, decide_eq_false hl]; rfl
      simp -implicitDefEqProofs [runD, IsRowD, isiv, hl, e]
  · have hn := notT_of hv fun xs e => ht ⟨xs, e⟩
    have e : isRw p v = false := by cases v <;> first | rfl | exact absurd ⟨_, rfl⟩ ht
    simp -implicitDefEqProofs [-deref, runD, IsRowD, hn.1, hn.2, e]
theorem stateOf {n : Nat} (hW : T[nw]? = some WholeD) (hR : T[nrw]? = some (IsRowD nw)) (hS : T[n]? = some (StateOfD nrw nw)) {r : Ru} (hr : r.ok) {v : Val} (hv : fine v = true) : callN T (k + 3) n [r.v, v] s = .ok (.val (.bl (isSt r.p r.rows.length v))) s := by
  rw [callN_eq hS]
  have p4 := hr.p4
  by_cases ht : ∃ xs, v = .tup xs
  · obtain ⟨xs, rfl⟩ := ht
    rw [fine, fines_iff] at hv
    by_cases hl : xs.length = 2
    · match xs, hl with
      | [a, b], _ =>
        have o := isrow (k := k) (s := s) (p := r.p) hW hR (hv a (by simp)) (by omega)
        have w := whole (k := k + 1) (s := s) (lo := 0) (hi := (r.rows.length : Int) - 1) hW (hv b (by simp))
        cases h : isRw r.p a <;> simp -implicitDefEqProofs [runD, StateOfD, isiv, Ru.v, o, w, isSt, h]
    · have hz : ¬ ((xs.length : Int) = 2) := by omega
      have e : isSt r.p r.rows.length (.tup xs) = false := by
        match xs, hl with
        | [], _ => rfl
        | [_], _ => rfl
        | _ :: _ :: _ :: _, _ => rfl
      simp -implicitDefEqProofs [runD, StateOfD, isiv, hz, e]
  · have hn := notT_of hv fun xs e => ht ⟨xs, e⟩
    have e : isSt r.p r.rows.length v = false := by cases v <;> first | rfl | exact absurd ⟨_, rfl⟩ ht
    simp -implicitDefEqProofs [-deref, runD, StateOfD, hn.1, hn.2, e]
/-- need_rule of a rule -/
theorem needRule {no nm nms nr n : Nat} {x : CS} (hW : T[nw]? = some WholeD) (hO : T[no]? = some (OrdD nw)) (hM : T[nm]? = some (MoveD nw no)) (hS : T[nms]? = some (MovesD nm)) (hR : T[nr]? = some (RowD nw nms)) (hU : T[nu]? = some (RuleD nw nr)) (hN : T[n]? = some (NeedRuleD nu x)) {r : Ru} (hr : r.ok) :
    callN T (k + 7) n [r.v] s = .ok (.val .non) s := by
  rw [callN_eq hN]
  have e := rule (k := k) (s := s) hW hO hM hS hR hU hr.fine.1
  rw [hr.isRule] at e
  simp -implicitDefEqProofs [runD, NeedRuleD, e]
def firstT (r : Ru) : List Int := List.replicate r.p (-1)
theorem mulBlank {p : Nat} (h1 : 1 ≤ p) (h4 : p ≤ 4) (i : Int) : binop .mul (.tup [.int i]) (.int p) = some (.val (.tup (iV (List.replicate p i)))) := by
  have : p = 1 ∨ p = 2 ∨ p = 3 ∨ p = 4 := by omega
  rcases this with rfl | rfl | rfl | rfl <;> rfl
theorem firstState {n : Nat} (hF : T[n]? = some FirstD) {r : Ru} (hr : r.ok) : callN T (k + 1) n [r.v] s = .ok (.val (sV (firstT r) 0)) s := by
  rw [callN_eq hF]
  have m := mulBlank hr.p1 hr.p4 (-1)
  simp -implicitDefEqProofs [runD, FirstD, Ru.v, m, le_line, sV, firstT]
theorem firstOk {r : Ru} (hr : r.ok) : StOk r (firstT r) 0 := ⟨List.length_replicate .., fun x hx => by rw [List.eq_of_mem_replicate hx]; omega, fun x hx h => absurd (List.eq_of_mem_replicate hx) h, hr.l1⟩
theorem lfirst {n : Nat} (hF : T[n]? = some LFirstD) {r : Ru} (hr : r.ok) : callN T (k + 1) n [r.v] s = .ok (.val (sV (firstT r) 0)) s := by
  rw [callN_eq hF]
  have m := mulBlank hr.p1 hr.p4 (-1)
  simp -implicitDefEqProofs [runD, LFirstD, Ru.v, m, le_line, sV, firstT]
end
end Gz
/-! Asking for a thing: the program's step and the laws' own. -/
namespace Gz
open PySem L2
def gt (row : List Int) (a : Nat) : Int := row.getD a 0
def Lr.hit (L : Lr) (j : Nat) : Mv := L.hits.getD j default
def Lr.come (L : Lr) (j : Nat) : Mv := L.comes.getD j default
def arrT (row : List Int) (ord : List Nat) : List Int := ord.map (gt row)
def pickV (row : List Int) : Val → Val
  | .int i => .int (gt row i.toNat)
  | x => x
def optV : Option Int → Val
  | none => .non
  | some i => .int i
/-- the label row of a label -/
def Ru.at (r : Ru) (lab : Nat) : Lr := r.rows.getD lab default
/-- where a new thing comes -/
def placeT (L : Lr) (row : List Int) : Nat := if -1 ∈ row then row.idxOf (-1) else L.out
/-- (is_hit, gone, row, label) -/
def stepT (r : Ru) (row : List Int) (lab : Nat) (t : Int) : Bool × Option Int × List Int × Nat :=
  if t ∈ row then (true, none, arrT row ((r.at lab).hit (row.idxOf t)).ord, ((r.at lab).hit (row.idxOf t)).to)
  else (false, (if gt row (placeT (r.at lab) row) = -1 then none else some (gt row (placeT (r.at lab) row))),
    arrT (row.set (placeT (r.at lab) row) t) ((r.at lab).come (placeT (r.at lab) row)).ord, ((r.at lab).come (placeT (r.at lab) row)).to)
def resV (x : Bool × Option Int × List Int × Nat) : Val := .tup [.bl x.1, optV x.2.1, sV x.2.2.1 x.2.2.2]
theorem Ru.ok.at {r : Ru} (h : r.ok) {lab : Nat} (hl : lab < r.rows.length) : (r.at lab).ok r.p r.rows.length := h.rw _ (getD_mem hl)
theorem ord_lt {p : Nat} {o : List Nat} (h : o.Perm (List.range p)) : o.length = p ∧ ∀ a ∈ o, a < p := ⟨by rw [h.length_eq, List.length_range], fun a ha => List.mem_range.mp (h.mem_iff.mp ha)⟩
theorem place_lt {r : Ru} (hr : r.ok) {row : List Int} {lab : Nat} (hs : StOk r row lab) : placeT (r.at lab) row < r.p := by
  unfold placeT
  split
  · rename_i h
    rw [← hs.len]
    exact List.idxOf_lt_length_of_mem h
  · exact (hr.at hs.lab).2.1
section
variable {T : List Def} {k na ns : Nat} {s : Sto}
theorem arrMap {row : List Int} {ord : List Nat} : (nV ord).map (pickV row) = iV (arrT row ord) := by
  unfold nV iV arrT
  rw [List.map_map, List.map_map]
  refine List.map_congr_left fun a _ => ?_
  simp [pickV]
theorem arr_at {row : List Int} {a : Nat} (h : a < row.length) : atI (iV row) (a : Int) = some (.int (gt row a)) := by
  rw [atI_iV h, gt, List.getD_eq_getElem?_getD, List.getElem?_eq_getElem h]; rfl
theorem arranged (hA : T[na]? = some ArrD) {row : List Int} {ord : List Nat} (h : ∀ a ∈ ord, a < row.length) (hl : ord.length ≤ 1000) : callN T (k + 1) na [.tup (iV row), .tup (nV ord)] s = .ok (.val (.tup (iV (arrT row ord)))) s := by
  rw [callN_eq hA]
  have l : evE (callN T k) ArrD_l0 [some (.val (.tup (iV row))), some (.val (.tup (nV ord))), none] s = .ok (.fr (iV (arrT row ord))) [some (.val (.tup (iV row))), some (.val (.tup (nV ord))), none] s := by
    unfold ArrD_l0
    rw [ev_lc]
    have e : evI (callN T k) (.seq (.var 1)) [some (.val (.tup (iV row))), some (.val (.tup (nV ord))), none] s = .ok (nV ord) [some (.val (.tup (iV row))), some (.val (.tup (nV ord))), none] s := by simp -implicitDefEqProofs
    rw [e, bind_ok, lc_map (g := pickV row) [] (by have := le_line (n := ord.length) hl; simpa using this) ?_, arrMap]
    · simp
    · intro x hx
      obtain ⟨a, ha, rfl⟩ := List.mem_map.mp hx
      have := arr_at (h a ha)
      simp -implicitDefEqProofs [turnF, this, pickV]
  simp -implicitDefEqProofs [runD, ArrD, l]
/-- row[:place] + (thing,) + row[place + 1:] -/
theorem cutSet {row : List Int} {j : Nat} {t : Int} (h : j < row.length) : (iV row).take j ++ [Val.int t] ++ (iV row).drop (j + 1) = iV (row.set j t) := by
  unfold iV
  rw [List.set_eq_take_append_cons_drop, if_pos h, List.map_append, List.map_cons, List.map_take, List.map_drop]
  simp
theorem tup_add {xs ys : List Val} (h : xs.length + ys.length ≤ 1000) : binop .add (.tup xs) (.tup ys) = some (.val (.tup (xs ++ ys))) := b_addT (le_line h)
theorem filled {row : List Int} {j : Nat} {t : Int} (h : j < row.length) (hl : row.length ≤ 100) :
    binop .add (.tup ((iV row).take j)) (.tup [.int t]) = some (.val (.tup ((iV row).take j ++ [.int t]))) ∧ binop .add (.tup ((iV row).take j ++ [.int t])) (.tup ((iV row).drop (j + 1))) = some (.val (.tup (iV (row.set j t)))) := by
  refine ⟨tup_add ?_, ?_⟩
  · simp; omega
  · rw [tup_add, cutSet h]
    simp; omega
theorem step (hA : T[na]? = some ArrD) (hS : T[ns]? = some (StepD na)) {r : Ru} (hr : r.ok) {row : List Int} {lab : Nat} (hs : StOk r row lab) (t : Int) : callN T (k + 2) ns [r.v, sV row lab, .int t] s = .ok (.val (resV (stepT r row lab t))) s := by
  rw [callN_eq hS]
  have p4 := hr.p4
  have len := hs.len
  obtain ⟨⟨hh1, hh2⟩, ho, hc1, hc2⟩ := hr.at hs.lab
  have e1 : atI (r.rows.map Lr.v) (lab : Int) = some (r.at lab).v := atI_map hs.lab
  by_cases ht : t ∈ row
  · have hi := List.idxOf_lt_length_of_mem ht
    have e2 : atI ((r.at lab).hits.map Mv.v) ((row.idxOf t : Nat) : Int) = some ((r.at lab).hit (row.idxOf t)).v := atI_map (by omega)
    have e3 := mth_index ht
    have om := ord_lt (o := ((r.at lab).hit (row.idxOf t)).ord) (hh2 _ (getD_mem (d := default) (j := row.idxOf t) (by omega))).1
    have e4 := arranged (k := k) (s := s) (row := row) hA (ord := ((r.at lab).hit (row.idxOf t)).ord) (fun a ha => by have := om.2 a ha; omega) (by omega)
    simp -implicitDefEqProofs [runD, StepD, Ru.v, sV, e1, isin_ints, ht, e3, Lr.v, e2, Mv.v, e4, le_line, stepT, resV, optV]
  · have pl := place_lt hr hs
    have e2 : atI ((r.at lab).comes.map Mv.v) ((placeT (r.at lab) row : Nat) : Int) = some ((r.at lab).come (placeT (r.at lab) row)).v := atI_map (by omega)
    have om := ord_lt (o := ((r.at lab).come (placeT (r.at lab) row)).ord) (hc2 _ (getD_mem (d := default) (j := placeT (r.at lab) row) (by omega))).1
    have e4 := arranged (k := k) (s := s) (row := row.set (placeT (r.at lab) row) t) hA (ord := ((r.at lab).come (placeT (r.at lab) row)).ord) (fun a ha => by have := om.2 a ha; rw [List.length_set]; omega) (by omega)
    have e5 := arr_at (row := row) (a := placeT (r.at lab) row) (by omega)
    obtain ⟨f1, f2⟩ := filled (row := row) (j := placeT (r.at lab) row) (t := t) (by omega) (by omega)
    have c1 := cut_hi (iV row) (placeT (r.at lab) row)
    have c2 := cut_lo1 (iV row) (placeT (r.at lab) row)
    by_cases hb : -1 ∈ row
    · have e3 := mth_index hb
      have ep : placeT (r.at lab) row = row.idxOf (-1) := if_pos hb
      rw [← ep] at e3
      by_cases hg : gt row (placeT (r.at lab) row) = -1
      · simp -implicitDefEqProofs [runD, StepD, Ru.v, sV, e1, isin_ints, ht, hb, e3, Lr.v, e2, Mv.v, e4, le_line, stepT, resV, optV, e5, hg, c1, c2, f1, f2]
      · have hg' : (gt row (placeT (r.at lab) row) == -1) = false := beq_eq_false_iff_ne.mpr hg
        simp -implicitDefEqProofs [runD, StepD, Ru.v, sV, e1, isin_ints, ht, hb, e3, Lr.v, e2, Mv.v, e4, le_line, stepT, resV, optV, e5, hg, hg', c1, c2, f1, f2]
    · have ep : (r.at lab).out = placeT (r.at lab) row := (if_neg hb).symm
      by_cases hg : gt row (placeT (r.at lab) row) = -1
      · simp -implicitDefEqProofs [runD, StepD, Ru.v, sV, e1, isin_ints, ht, hb, Lr.v, e2, Mv.v, e4, le_line, stepT, resV, optV, e5, hg, c1, c2, f1, f2, ep]
      · have hg' : (gt row (placeT (r.at lab) row) == -1) = false := beq_eq_false_iff_ne.mpr hg
        simp -implicitDefEqProofs [runD, StepD, Ru.v, sV, e1, isin_ints, ht, hb, Lr.v, e2, Mv.v, e4, le_line, stepT, resV, optV, e5, hg, hg', c1, c2, f1, f2, ep]
end
end Gz
/-! The laws' own asking; states stay states; runs. -/
namespace Gz
open PySem L2
theorem set_same {r : Rho} {c : Nat} {o : Option Slot} (h : r[c]? = some o) : r.set c o = r := by
  obtain ⟨hl, he⟩ := List.getElem?_eq_some_iff.mp h
  rw [← he]; exact List.set_getElem_self hl
section
variable {T : List Def} {k na ns : Nat} {s : Sto}
/-- [row[at] for at in order] -/
theorem arr_lc {F : FT} {i j c : Nat} {r : Rho} {row : List Int} {ord : List Nat} (hi : r[i]? = some (some (.val (.tup (iV row))))) (hj : r[j]? = some (some (.val (.tup (nV ord))))) (hc : r[c]? = some none) (hic : c ≠ i) (h : ∀ a ∈ ord, a < row.length) (hl : ord.length ≤ 1000) :
    evE F (.lc (.seq (.var j)) [c] .no (.idxV i (.var c))) r s = .ok (.fr (iV (arrT row ord))) r s := by
  rw [ev_lc]
  have e : evI F (.seq (.var j)) r s = .ok (nV ord) r s := by simp -implicitDefEqProofs [hj]
  have w : wipeR r [c] = r := by simp [set_same hc]
  rw [e, bind_ok, w, lc_map (g := pickV row) [] (by have := le_line (n := ord.length) hl; simpa using this) ?_, arrMap]
  · simp
  · intro x hx
    obtain ⟨a, ha, rfl⟩ := List.mem_map.mp hx
    have := arr_at (h a ha)
    have cl := lt_of_get hc
    simp -implicitDefEqProofs [turnF, pickV, this, List.getElem?_set, hi, hic, cl, set_same hc]
theorem lask (hS : T[ns]? = some LAskD) {r : Ru} (hr : r.ok) {row : List Int} {lab : Nat} (hs : StOk r row lab) (t : Int) : callN T (k + 1) ns [r.v, sV row lab, .int t] s = .ok (.val (resV (stepT r row lab t))) s := by
  rw [callN_eq hS]
  have p4 := hr.p4
  have len := hs.len
  obtain ⟨⟨hh1, hh2⟩, ho, hc1, hc2⟩ := hr.at hs.lab
  have e1 : atI (r.rows.map Lr.v) (lab : Int) = some (r.at lab).v := atI_map hs.lab
  by_cases ht : t ∈ row
  · have hi := List.idxOf_lt_length_of_mem ht
    have e2 : atI ((r.at lab).hits.map Mv.v) ((row.idxOf t : Nat) : Int) = some ((r.at lab).hit (row.idxOf t)).v := atI_map (by omega)
    have e3 := mth_index ht
    have om := ord_lt (o := ((r.at lab).hit (row.idxOf t)).ord) (hh2 _ (getD_mem (d := default) (j := row.idxOf t) (by omega))).1
    have e4 := fun x0 x1 x2 x4 x5 x6 x7 x8 x9 x11 x12 x13 x14 => arr_lc (F := callN T k) (s := s) (i := 3) (j := 10) (c := 15) (row := row) (ord := ((r.at lab).hit (row.idxOf t)).ord) (r := [x0, x1, x2, some (.val (.tup (iV row))), x4, x5, x6, x7, x8, x9, some (.val (.tup (nV ((r.at lab).hit (row.idxOf t)).ord))), x11, x12, x13, x14, none]) rfl rfl rfl (by decide) (fun a ha => by have := om.2 a ha; omega) (by omega)
    change ∀ x0 x1 x2 x4 x5 x6 x7 x8 x9 x11 x12 x13 x14, evE _ LAskD_l1 _ s = _ at e4
    simp -implicitDefEqProofs [runD, LAskD, Ru.v, sV, e1, isin_ints, ht, e3, Lr.v, e2, Mv.v, e4, le_line, stepT, resV, optV]
  · have pl := place_lt hr hs
    have e2 : atI ((r.at lab).comes.map Mv.v) ((placeT (r.at lab) row : Nat) : Int) = some ((r.at lab).come (placeT (r.at lab) row)).v := atI_map (by omega)
    have om := ord_lt (o := ((r.at lab).come (placeT (r.at lab) row)).ord) (hc2 _ (getD_mem (d := default) (j := placeT (r.at lab) row) (by omega))).1
    have e4 := fun x0 x1 x2 x3 x4 x5 x6 x7 x8 x9 x11 x12 x13 => arr_lc (F := callN T k) (s := s) (i := 14) (j := 10) (c := 15) (row := row.set (placeT (r.at lab) row) t) (ord := ((r.at lab).come (placeT (r.at lab) row)).ord) (r := [x0, x1, x2, x3, x4, x5, x6, x7, x8, x9, some (.val (.tup (nV ((r.at lab).come (placeT (r.at lab) row)).ord))), x11, x12, x13, some (.val (.tup (iV (row.set (placeT (r.at lab) row) t)))), none]) rfl rfl rfl (by decide) (fun a ha => by have := om.2 a ha; rw [List.length_set]; omega) (by omega)
    change ∀ x0 x1 x2 x3 x4 x5 x6 x7 x8 x9 x11 x12 x13, evE _ LAskD_l0 _ s = _ at e4
    have e5 := arr_at (row := row) (a := placeT (r.at lab) row) (by omega)
    obtain ⟨f1, f2⟩ := filled (row := row) (j := placeT (r.at lab) row) (t := t) (by omega) (by omega)
    have c1 := cut_hi (iV row) (placeT (r.at lab) row)
    have c2 := cut_lo1 (iV row) (placeT (r.at lab) row)
    by_cases hb : -1 ∈ row
    · have e3 := mth_index hb
      have ep : placeT (r.at lab) row = row.idxOf (-1) := if_pos hb
      rw [← ep] at e3
      by_cases hg : gt row (placeT (r.at lab) row) = -1
      · simp -implicitDefEqProofs [runD, LAskD, Ru.v, sV, e1, isin_ints, ht, hb, e3, Lr.v, e2, Mv.v, e4, le_line, stepT, resV, optV, e5, hg, c1, c2, f1, f2]
      · have hg' : (gt row (placeT (r.at lab) row) == -1) = false := beq_eq_false_iff_ne.mpr hg
        simp -implicitDefEqProofs [runD, LAskD, Ru.v, sV, e1, isin_ints, ht, hb, e3, Lr.v, e2, Mv.v, e4, le_line, stepT, resV, optV, e5, hg, hg', c1, c2, f1, f2]
    · have ep : (r.at lab).out = placeT (r.at lab) row := (if_neg hb).symm
      by_cases hg : gt row (placeT (r.at lab) row) = -1
      · simp -implicitDefEqProofs [runD, LAskD, Ru.v, sV, e1, isin_ints, ht, hb, Lr.v, e2, Mv.v, e4, le_line, stepT, resV, optV, e5, hg, c1, c2, f1, f2, ep]
      · have hg' : (gt row (placeT (r.at lab) row) == -1) = false := beq_eq_false_iff_ne.mpr hg
        simp -implicitDefEqProofs [runD, LAskD, Ru.v, sV, e1, isin_ints, ht, hb, Lr.v, e2, Mv.v, e4, le_line, stepT, resV, optV, e5, hg, hg', c1, c2, f1, f2, ep]
end
/-! ### a state stays one -/
theorem arr_range (row : List Int) : arrT row (List.range row.length) = row := by
  unfold arrT
  refine List.ext_getElem (by simp) fun i h1 h2 => ?_
  simp [gt, List.getD_eq_getElem?_getD, List.getElem?_eq_getElem h2]
theorem arr_perm {row : List Int} {ord : List Nat} (h : ord.Perm (List.range row.length)) : (arrT row ord).Perm row := by
  have := h.map (gt row)
  exact this.trans (List.Perm.of_eq (arr_range row))
/-- things in bounds, each at most once but for blanks -/
structure RowOk (row : List Int) : Prop where
  bd : ∀ x ∈ row, -1 ≤ x ∧ x ≤ 99
  one : ∀ x ∈ row, x ≠ -1 → row.count x = 1
theorem RowOk.perm {a b : List Int} (h : RowOk a) (p : b.Perm a) : RowOk b := ⟨fun x hx => h.bd x (p.mem_iff.mp hx), fun x hx hn => by rw [p.count_eq]; exact h.one x (p.mem_iff.mp hx) hn⟩
theorem RowOk.put {a : List Int} (h : RowOk a) {j : Nat} {t : Int} (ht : t ∉ a) (h0 : 0 ≤ t) (h9 : t ≤ 99) : RowOk (a.set j t) := by
  by_cases hj : j < a.length
  · refine ⟨fun x hx => ?_, fun x hx hn => ?_⟩
    · rcases List.mem_or_eq_of_mem_set hx with hx | rfl
      · exact h.bd x hx
      · omega
    · rw [List.count_set hj]
      by_cases e : t = x
      · subst e
        have c0 : a.count t = 0 := List.count_eq_zero.mpr ht
        have : a[j] ≠ t := fun z => ht (z ▸ List.getElem_mem hj)
        simp [c0, this]
      · have hx' : x ∈ a := (List.mem_or_eq_of_mem_set hx).resolve_right (Ne.symm e)
        have c1 := h.one x hx' hn
        have e' : (t == x) = false := beq_eq_false_iff_ne.mpr e
        by_cases q : a[j] = x
        · exfalso
          have hd : (a.set j t).count x = 0 := by
            rw [List.count_set hj, c1]
            simp [q, e']
          exact absurd hx (List.count_eq_zero.mp hd)
        · have q' : (a[j] == x) = false := beq_eq_false_iff_ne.mpr q
          simp [c1, e', q']
  · rw [List.set_eq_of_length_le (by omega)]; exact h
theorem StOk.row {r : Ru} {row : List Int} {lab : Nat} (h : StOk r row lab) : RowOk row := ⟨h.bd, h.one⟩
theorem StOk.mk' {r : Ru} {row : List Int} {lab : Nat} (h : RowOk row) (hl : row.length = r.p) (hb : lab < r.rows.length) : StOk r row lab := ⟨hl, h.bd, h.one, hb⟩
theorem stepOk {r : Ru} (hr : r.ok) {row : List Int} {lab : Nat} (hs : StOk r row lab) {t : Int} (h0 : 0 ≤ t) (h9 : t ≤ 99) : StOk r (stepT r row lab t).2.2.1 (stepT r row lab t).2.2.2 := by
  have len := hs.len
  obtain ⟨⟨hh1, hh2⟩, ho, hc1, hc2⟩ := hr.at hs.lab
  unfold stepT
  split
  · rename_i ht
    have hi := List.idxOf_lt_length_of_mem ht
    obtain ⟨m1, m2⟩ := hh2 _ (getD_mem (d := default) (j := row.idxOf t) (by omega))
    have pm := arr_perm (row := row) (ord := ((r.at lab).hit (row.idxOf t)).ord) (by rw [len]; exact m1)
    exact .mk' (hs.row.perm pm) (by rw [pm.length_eq, len]) m2
  · rename_i ht
    have pl := place_lt hr hs
    obtain ⟨m1, m2⟩ := hc2 _ (getD_mem (d := default) (j := placeT (r.at lab) row) (by omega))
    have pm := arr_perm (row := row.set (placeT (r.at lab) row) t) (ord := ((r.at lab).come (placeT (r.at lab) row)).ord) (by rw [List.length_set, len]; exact m1)
    exact .mk' ((hs.row.put ht h0 h9).perm pm) (by rw [pm.length_eq, List.length_set, len]) m2
theorem stepGone {r : Ru} (hr : r.ok) {row : List Int} {lab : Nat} (hs : StOk r row lab) {t : Int} : ∀ x, (stepT r row lab t).2.1 = some x → 0 ≤ x ∧ x ≤ 99 := by
  intro x hx
  have len := hs.len
  have pl := place_lt hr hs
  unfold stepT at hx
  split at hx
  · cases hx
  · simp only at hx
    split at hx
    · cases hx
    · rename_i hg
      cases hx
      have := hs.bd (gt row (placeT (r.at lab) row)) (by unfold gt; exact getD_mem (by omega))
      omega
end Gz
/-! Things of a row; asked; runs. -/
namespace Gz
open PySem L2
def thingsT (row : List Int) : List Int := (row.filter fun x => !(x == -1)).mergeSort fun a b => decide (a ≤ b)
theorem things_mem {row : List Int} {x : Int} : x ∈ thingsT row ↔ x ∈ row ∧ x ≠ -1 := by
  unfold thingsT
  rw [(List.mergeSort_perm _ _).mem_iff, List.mem_filter]
  simp
theorem things_len (row : List Int) : (thingsT row).length ≤ row.length := by
  unfold thingsT
  rw [(List.mergeSort_perm _ _).length_eq]
  exact List.length_filter_le _ _
def notB : Val → Bool
  | .int i => !(i == -1)
  | _ => true
theorem notB_filter (row : List Int) : (iV row).filter notB = iV (row.filter fun x => !(x == -1)) := by
  unfold iV
  rw [List.filter_map]; rfl
section
variable {T : List Def} {k na ns nw nu nrw : Nat} {s : Sto}
/-- [one for one in row if one != -1] -/
theorem nb_lc {F : FT} {i c : Nat} {ce : CE} {r : Rho} {row : List Int} (hce : ∀ r s, evE F ce r s = .ok (.val (.int (-1))) r s) (hi : r[i]? = some (some (.val (.tup (iV row))))) (hc : r[c]? = some none) (hl : row.length ≤ 1000) :
    evE F (.lc (.seq (.var i)) [c] (.so (.cmp .ne (.var c) ce)) (.var c)) r s = .ok (.fr (iV (row.filter fun x => !(x == -1)))) r s := by
  rw [ev_lc]
  have e : evI F (.seq (.var i)) r s = .ok (iV row) r s := by simp -implicitDefEqProofs [hi]
  have w : wipeR r [c] = r := by simp [set_same hc]
  rw [e, bind_ok, w, lc_filter (p := notB) (g := id) [] (by have := le_line (n := row.length) hl; simpa using this) ?_, notB_filter]
  · simp
  · intro x hx
    obtain ⟨a, ha, rfl⟩ := List.mem_map.mp hx
    have cl := lt_of_get hc
    cases h : (a == -1) <;> simp -implicitDefEqProofs [turnF, notB, List.getElem?_set, hce, cl, set_same hc, h]
theorem sortInts (ns : List Int) : bltop .sorted [.lst (iV ns)] = some (.fr (iV (ns.mergeSort fun a b => decide (a ≤ b)))) := by
  show (ints? (ns.map .int)).map _ = _
  rw [ints_map]; rfl
theorem things (hT : T[ns]? = some ThingsD) {row : List Int} (hl : row.length ≤ 1000) : callN T (k + 1) ns [.tup (iV row)] s = .ok (.val (.tup (iV (thingsT row)))) s := by
  rw [callN_eq hT]
  have l := nb_lc (F := callN T k) (s := s) (i := 0) (c := 1) (ce := .cst (.int (-1))) (r := [some (.val (.tup (iV row))), none]) (row := row) (fun r s => by simp -implicitDefEqProofs) rfl rfl hl
  change evE _ ThingsD_l0 _ s = _ at l
  simp -implicitDefEqProofs [runD, ThingsD, l, sortInts, thingsT]
theorem lthings (hT : T[ns]? = some LThingsD) {row : List Int} (hl : row.length ≤ 1000) : callN T (k + 1) ns [.tup (iV row)] s = .ok (.val (.tup (iV (thingsT row)))) s := by
  rw [callN_eq hT]
  have l := nb_lc (F := callN T k) (s := s) (i := 0) (c := 1) (ce := .neg (.cst (.int 1))) (r := [some (.val (.tup (iV row))), none]) (row := row) (fun r s => by simp -implicitDefEqProofs) rfl rfl hl
  change evE _ LThingsD_l0 _ s = _ at l
  simp -implicitDefEqProofs [runD, LThingsD, l, sortInts, thingsT]
theorem thing (hW : T[nw]? = some WholeD) (hT : T[ns]? = some (ThingD nw)) {v : Val} (hv : fine v = true) : callN T (k + 2) ns [v] s = .ok (.val (.bl (isW 0 99 v))) s := by
  rw [callN_eq hT]
  have w := whole (k := k) (s := s) (lo := 0) (hi := 99) hW hv
  simp -implicitDefEqProofs [runD, ThingD, w]
theorem isW_int {lo hi i : Int} (h1 : lo ≤ i) (h2 : i ≤ hi) : isW lo hi (.int i) = true := by simp [isW, h1, h2]
theorem needThing {n : Nat} {x : CS} (hW : T[nw]? = some WholeD) (hT : T[ns]? = some (ThingD nw)) (hN : T[n]? = some (NeedThingD ns x)) {t : Int} (h0 : 0 ≤ t) (h9 : t ≤ 99) : callN T (k + 3) n [.int t] s = .ok (.val .non) s := by
  rw [callN_eq hN]
  have e := thing (k := k) (s := s) hW hT (fine_i (j := t) (by omega) (by omega))
  rw [isW_int h0 h9] at e
  simp -implicitDefEqProofs [runD, NeedThingD, e]
/-- asked of good arguments -/
theorem asked {no nm nms nr nn nst nth nnt nsp n : Nat} {x y z : CS} (hW : T[nw]? = some WholeD) (hO : T[no]? = some (OrdD nw)) (hM : T[nm]? = some (MoveD nw no)) (hS : T[nms]? = some (MovesD nm)) (hR : T[nr]? = some (RowD nw nms)) (hU : T[nu]? = some (RuleD nw nr)) (hN : T[nn]? = some (NeedRuleD nu x))
    (hRw : T[nrw]? = some (IsRowD nw)) (hSt : T[nst]? = some (StateOfD nrw nw)) (hTh : T[nth]? = some (ThingD nw)) (hNt : T[nnt]? = some (NeedThingD nth y)) (hA : T[na]? = some ArrD) (hSp : T[nsp]? = some (StepD na)) (hK : T[n]? = some (AskedD nsp nnt nst nn z))
    {r : Ru} (hr : r.ok) {row : List Int} {lab : Nat} (hs : StOk r row lab) {t : Int} (h0 : 0 ≤ t) (h9 : t ≤ 99) : callN T (k + 8) n [r.v, sV row lab, .int t] s = .ok (.val (resV (stepT r row lab t))) s := by
  rw [callN_eq hK]
  have e1 := needRule (k := k) (s := s) hW hO hM hS hR hU hN hr
  have e2 := stateOf (k := k + 4) (s := s) hW hRw hSt hr (hs.fine hr).1
  rw [isSt_of hs] at e2
  have e3 := needThing (k := k + 4) (s := s) hW hTh hNt h0 h9
  have e4 := step (k := k + 5) (s := s) hA hSp hr hs t
  simp -implicitDefEqProofs [runD, AskedD, e1, e2, e3, e4]
theorem trueMap (ws : List Int) : (iV ws).map (fun _ => Val.bl true) = List.replicate ws.length (.bl true) := by
  induction ws with
  | nil => rfl
  | cons w ws ih => show Val.bl true :: (iV ws).map _ = _; rw [ih]; rfl
theorem for_tup {F : FT} {i : Nat} {tg : List Nat} {b : CSs} {r : Rho} {xs : List Val} (h : r[i]? = some (some (.val (.tup xs)))) : exS F (.for_ tg (.seq (.var i)) b) r s = forLoop (turnB F tg b) xs r s := by
  rw [ex_for]
  have e : evI F (.seq (.var i)) r s = .ok xs r s := by simp -implicitDefEqProofs [h]
  rw [e, bind_ok]
/-! ### requests -/
def reqOk (ws : List Int) : Prop := ws.length ≤ 60 ∧ ∀ t ∈ ws, 0 ≤ t ∧ t ≤ 99
theorem reqOk.fine {ws : List Int} (h : reqOk ws) : Gz.fine (.tup (iV ws)) = true ∧ dp (.tup (iV ws)) ≤ 1 ∧ wt (.tup (iV ws)) ≤ 120000 := by
  obtain ⟨h1, h2, h3⟩ := iV_fine (ns := ws) fun n hn => by have := h.2 n hn; omega
  have := h.1
  exact ⟨h1, h2, by omega⟩
theorem requests {n : Nat} (hW : T[nw]? = some WholeD) (hT : T[ns]? = some (ThingD nw)) (hR : T[n]? = some (ReqD ns)) {ws : List Int} (h : reqOk ws) : callN T (k + 3) n [.tup (iV ws)] s = .ok (.val (.bl true)) s := by
  rw [callN_eq hR]
  have l : evE (callN T (k + 2)) (ReqD_l0 ns) [some (.val (.tup (iV ws))), none] s = .ok (.fr (List.replicate ws.length (.bl true))) [some (.val (.tup (iV ws))), none] s := by
    unfold ReqD_l0
    rw [ev_lc]
    have e : evI (callN T (k + 2)) (.seq (.var 0)) [some (.val (.tup (iV ws))), none] s = .ok (iV ws) [some (.val (.tup (iV ws))), none] s := by simp -implicitDefEqProofs
    have hl : ws.length ≤ 1000 := by have := h.1; omega
    rw [e, bind_ok, lc_map (g := fun _ => .bl true) [] (by have := le_line hl; simpa using this) ?_]
    · simp [trueMap]
    · intro x hx
      obtain ⟨a, ha, rfl⟩ := List.mem_map.mp hx
      obtain ⟨h0, h9⟩ := h.2 a ha
      have e := thing (k := k) (s := s) hW hT (fine_i (j := a) (by omega) (by omega))
      rw [isW_int h0 h9] at e
      simp -implicitDefEqProofs [turnF, e]
  have hl : ¬ (60 : Int) < ws.length := by have := h.1; omega
  have hl2 : ¬ 60 < ws.length := by have := h.1; omega
  simp -implicitDefEqProofs [runD, ReqD, isiv, l, bools_rep, hl, hl2]
theorem needReq {n m : Nat} {x : CS} (hW : T[nw]? = some WholeD) (hT : T[ns]? = some (ThingD nw)) (hR : T[n]? = some (ReqD ns)) (hN : T[m]? = some (NeedReqD n x)) {ws : List Int} (h : reqOk ws) : callN T (k + 4) m [.tup (iV ws)] s = .ok (.val .non) s := by
  rw [callN_eq hN]
  have e := requests (k := k) (s := s) hW hT hR h
  simp -implicitDefEqProofs [runD, NeedReqD, e]
/-! ### runs -/
/-- the state behind, the hits, what goes -/
def runT (r : Ru) : List Int → Nat → List Int → (List Int × Nat) × List Bool × List (Option Int)
  | row, lab, [] => ((row, lab), [], [])
  | row, lab, t :: ts => ((runT r (stepT r row lab t).2.2.1 (stepT r row lab t).2.2.2 ts).1, (stepT r row lab t).1 :: (runT r (stepT r row lab t).2.2.1 (stepT r row lab t).2.2.2 ts).2.1,
      (stepT r row lab t).2.1 :: (runT r (stepT r row lab t).2.2.1 (stepT r row lab t).2.2.2 ts).2.2)
theorem runOk {r : Ru} (hr : r.ok) : ∀ {ws : List Int} {row : List Int} {lab : Nat}, StOk r row lab → (∀ t ∈ ws, 0 ≤ t ∧ t ≤ 99) → StOk r (runT r row lab ws).1.1 (runT r row lab ws).1.2
  | [], _, _, h, _ => h
  | t :: ts, row, lab, h, hw => by
    have ht := hw t List.mem_cons_self
    rw [runT]
    exact runOk hr (stepOk hr h ht.1 ht.2) fun x hx => hw x (List.mem_cons_of_mem _ hx)
theorem run_len (r : Ru) : ∀ (ws : List Int) (row : List Int) (lab : Nat), (runT r row lab ws).2.1.length = ws.length ∧ (runT r row lab ws).2.2.length = ws.length
  | [], _, _ => ⟨rfl, rfl⟩
  | t :: ts, row, lab => by
    obtain ⟨h1, h2⟩ := run_len r ts (stepT r row lab t).2.2.1 (stepT r row lab t).2.2.2
    exact ⟨by simp [runT, h1], by simp [runT, h2]⟩
theorem run_gone {r : Ru} (hr : r.ok) : ∀ {ws : List Int} {row : List Int} {lab : Nat}, StOk r row lab → (∀ t ∈ ws, 0 ≤ t ∧ t ≤ 99) → ∀ o ∈ (runT r row lab ws).2.2, ∀ x, o = some x → 0 ≤ x ∧ x ≤ 99
  | [], _, _, _, _, o, ho => by simp [runT] at ho
  | t :: ts, row, lab, h, hw, o, ho => by
    have ht := hw t List.mem_cons_self
    rw [runT] at ho
    rcases List.mem_cons.mp ho with rfl | ho
    · exact stepGone hr h
    · exact run_gone hr (stepOk hr h ht.1 ht.2) (fun x hx => hw x (List.mem_cons_of_mem _ hx)) o ho
theorem runLoop {nf nsp : Nat} (hA : T[na]? = some ArrD) (hSp : T[nsp]? = some (StepD na)) {r : Ru} (hr : r.ok) {q : Option Slot} : ∀ (ws : List Int) (row : List Int) (lab : Nat) (fs ls : List Val) (x5 x6 x7 : Option Slot), StOk r row lab → (∀ t ∈ ws, 0 ≤ t ∧ t ≤ 99) → fs.length + ws.length ≤ 1000 → ls.length + ws.length ≤ 1000 →
    ∃ y5 y6 y7, forLoop (turnB (callN T (k + 2)) [5] (RunD_b0 nsp nf)) (iV ws) [some (.val r.v), q, some (.val (sV row lab)), some (.own fs), some (.own ls), x5, x6, x7] s =
      .ok .next [some (.val r.v), q, some (.val (sV (runT r row lab ws).1.1 (runT r row lab ws).1.2)), some (.own (fs ++ (runT r row lab ws).2.1.map .bl)), some (.own (ls ++ (runT r row lab ws).2.2.map optV)), y5, y6, y7] s
  | [], row, lab, fs, ls, x5, x6, x7, _, _, _, _ => ⟨x5, x6, x7, by simp -implicitDefEqProofs [iV, runT]⟩
  | t :: ts, row, lab, fs, ls, x5, x6, x7, hs, hw, h1, h2 => by
    have ht := hw t List.mem_cons_self
    simp only [List.length_cons] at h1 h2
    obtain ⟨y5, y6, y7, e⟩ := runLoop hA hSp hr ts (stepT r row lab t).2.2.1 (stepT r row lab t).2.2.2 (fs ++ [.bl (stepT r row lab t).1]) (ls ++ [optV (stepT r row lab t).2.1]) (some (.val (.int t))) (some (.val (.bl (stepT r row lab t).1))) (some (.val (optV (stepT r row lab t).2.1))) (stepOk hr hs ht.1 ht.2) (fun x hx => hw x (List.mem_cons_of_mem _ hx)) (by simp; omega) (by simp; omega)
    refine ⟨y5, y6, y7, ?_⟩
    have e1 := step (k := k) (s := s) hA hSp hr hs t
    have f1 : fs.length < sizeLine := small_line (by omega)
    have f2 : ls.length < sizeLine := small_line (by omega)
    have tb : turnB (callN T (k + 2)) [5] (RunD_b0 nsp nf) (.int t) [some (.val r.v), q, some (.val (sV row lab)), some (.own fs), some (.own ls), x5, x6, x7] s =
        .ok .next [some (.val r.v), q, some (.val (sV (stepT r row lab t).2.2.1 (stepT r row lab t).2.2.2)), some (.own (fs ++ [.bl (stepT r row lab t).1])), some (.own (ls ++ [optV (stepT r row lab t).2.1])), some (.val (.int t)), some (.val (.bl (stepT r row lab t).1)), some (.val (optV (stepT r row lab t).2.1))] s := by
      simp -implicitDefEqProofs [turnB, RunD_b0, e1, resV, f1, f2]
    show forLoop _ (.int t :: iV ts) _ s = _
    rw [forLoop, tb, bind_ok]
    dsimp only
    rw [e]
    simp [runT]
def stV2 (x : (List Int × Nat) × List Bool × List (Option Int)) : Val := .tup [sV x.1.1 x.1.2, .tup (x.2.1.map .bl), .tup (x.2.2.map optV)]
theorem runOf {nf nsp n : Nat} (hA : T[na]? = some ArrD) (hSp : T[nsp]? = some (StepD na)) (hF : T[nf]? = some FirstD) (hR : T[n]? = some (RunD nsp nf)) {r : Ru} (hr : r.ok) {ws : List Int} (hw : reqOk ws) : callN T (k + 3) n [r.v, .tup (iV ws)] s = .ok (.val (stV2 (runT r (firstT r) 0 ws))) s := by
  rw [callN_eq hR]
  have e1 := firstState (k := k + 1) (s := s) hF hr
  obtain ⟨y5, y6, y7, e⟩ := runLoop (k := k) (s := s) (nf := nf) (q := some (.val (.tup (iV ws)))) hA hSp hr ws (firstT r) 0 [] [] none none none (firstOk hr) hw.2 (by have := hw.1; simp; omega) (by have := hw.1; simp; omega)
  have e2 := (for_tup (i := 1) rfl).trans e
  change exS _ (RunD_f0 nsp nf) _ s = _ at e2
  simp -implicitDefEqProofs [runD, RunD, e1, e2, le_line, stV2]
end
end Gz
/-! Runs, asked for by each function; the laws' own runs; drawn states, drawn requests. -/
namespace Gz
open PySem L2
section
variable {T : List Def} {k : Nat} {s : Sto}
/-- the numbers of the program's functions that runs need -/
structure RunsT (T : List Def) (nw no nm nms nr nu nn nth nrq nnq na nsp nf nrn nck : Nat) : Prop where
  hW : T[nw]? = some WholeD
  hO : T[no]? = some (OrdD nw)
  hM : T[nm]? = some (MoveD nw no)
  hS : T[nms]? = some (MovesD nm)
  hR : T[nr]? = some (RowD nw nms)
  hU : T[nu]? = some (RuleD nw nr)
  hN : ∃ x, T[nn]? = some (NeedRuleD nu x)
  hT : T[nth]? = some (ThingD nw)
  hQ : T[nrq]? = some (ReqD nth)
  hNq : ∃ x, T[nnq]? = some (NeedReqD nrq x)
  hA : T[na]? = some ArrD
  hSp : T[nsp]? = some (StepD na)
  hF : T[nf]? = some FirstD
  hRn : T[nrn]? = some (RunD nsp nf)
  hC : T[nck]? = some (CheckedD nrn nnq nn)
variable {nw no nm nms nr nu nn nth nrq nnq na nsp nf nrn nck n m : Nat}
theorem RunsT.checked (R : RunsT T nw no nm nms nr nu nn nth nrq nnq na nsp nf nrn nck) {r : Ru} (hr : r.ok) {ws : List Int} (hw : reqOk ws) : callN T (k + 8) nck [r.v, .tup (iV ws)] s = .ok (.val (stV2 (runT r (firstT r) 0 ws))) s := by
  rw [callN_eq R.hC]
  obtain ⟨x, hN⟩ := R.hN
  obtain ⟨y, hNq⟩ := R.hNq
  have e1 := needRule (k := k) (s := s) R.hW R.hO R.hM R.hS R.hR R.hU hN hr
  have e2 := needReq (k := k + 3) (s := s) R.hW R.hT R.hQ hNq hw
  have e3 := runOf (k := k + 4) (s := s) R.hA R.hSp R.hF R.hRn hr hw
  simp -implicitDefEqProofs [runD, CheckedD, e1, e2, e3]
theorem RunsT.behind (R : RunsT T nw no nm nms nr nu nn nth nrq nnq na nsp nf nrn nck) (hB : T[n]? = some (BehindD nck)) {r : Ru} (hr : r.ok) {ws : List Int} (hw : reqOk ws) : callN T (k + 9) n [r.v, .tup (iV ws)] s = .ok (.val (sV (runT r (firstT r) 0 ws).1.1 (runT r (firstT r) 0 ws).1.2)) s := by
  rw [callN_eq hB]
  have e := R.checked (k := k) (s := s) hr hw
  simp -implicitDefEqProofs [runD, BehindD, e, stV2]
theorem RunsT.hits (R : RunsT T nw no nm nms nr nu nn nth nrq nnq na nsp nf nrn nck) (hB : T[n]? = some (HitsD nck)) {r : Ru} (hr : r.ok) {ws : List Int} (hw : reqOk ws) : callN T (k + 9) n [r.v, .tup (iV ws)] s = .ok (.val (.tup ((runT r (firstT r) 0 ws).2.1.map .bl))) s := by
  rw [callN_eq hB]
  have e := R.checked (k := k) (s := s) hr hw
  simp -implicitDefEqProofs [runD, HitsD, e, stV2]
theorem RunsT.gone (R : RunsT T nw no nm nms nr nu nn nth nrq nnq na nsp nf nrn nck) (hB : T[n]? = some (GoneD nck)) {r : Ru} (hr : r.ok) {ws : List Int} (hw : reqOk ws) : callN T (k + 9) n [r.v, .tup (iV ws)] s = .ok (.val (.tup ((runT r (firstT r) 0 ws).2.2.map optV))) s := by
  rw [callN_eq hB]
  have e := R.checked (k := k) (s := s) hr hw
  simp -implicitDefEqProofs [runD, GoneD, e, stV2]
theorem RunsT.kept (R : RunsT T nw no nm nms nr nu nn nth nrq nnq na nsp nf nrn nck) {nb nt : Nat} (hB : T[nb]? = some (BehindD nck)) (hT : T[nt]? = some ThingsD) (hK : T[n]? = some (KeptD nt nb)) {r : Ru} (hr : r.ok) {ws : List Int} (hw : reqOk ws) : callN T (k + 10) n [r.v, .tup (iV ws)] s = .ok (.val (.tup (iV (thingsT (runT r (firstT r) 0 ws).1.1)))) s := by
  rw [callN_eq hK]
  have e := R.behind (k := k) (s := s) hB hr hw
  have ok := runOk hr (firstOk hr) hw.2
  have e2 := things (k := k + 8) (s := s) hT (row := (runT r (firstT r) 0 ws).1.1) (by rw [ok.len]; have := hr.p4; omega)
  simp -implicitDefEqProofs [runD, KeptD, e, sV, e2]
theorem elEqs_bools (bs : List Bool) : elEqs (.bl false) (bs.map .bl) = some (bs.map (!·)) := by
  induction bs with
  | nil => rfl
  | cons b bs ih =>
    have e : elEq (.bl b) (.bl false) = some (!b) := by cases b <;> rfl
    show elEqs (.bl false) (.bl b :: bs.map .bl) = _
    rw [elEqs, e, ih]; rfl
theorem count_false (bs : List Bool) : mthop .count (.tup (bs.map .bl)) [.bl false] = some (.int (bs.count false : Nat)) := by
  show seqMt .count (bs.map .bl) (.bl false) = _
  unfold seqMt
  rw [elEqs_bools]
  dsimp only
  have : (bs.map (!·)).countP id = bs.count false := by
    rw [List.countP_map, List.count]
    congr 1
    funext b
    cases b <;> rfl
  rw [this]
theorem RunsT.misses (R : RunsT T nw no nm nms nr nu nn nth nrq nnq na nsp nf nrn nck) {nh : Nat} (hB : T[nh]? = some (HitsD nck)) (hM : T[n]? = some (MissesD nh)) {r : Ru} (hr : r.ok) {ws : List Int} (hw : reqOk ws) : callN T (k + 10) n [r.v, .tup (iV ws)] s = .ok (.val (.int ((runT r (firstT r) 0 ws).2.1.count false : Nat))) s := by
  rw [callN_eq hM]
  have e := R.hits (k := k) (s := s) hB hr hw
  have c := count_false (runT r (firstT r) 0 ws).2.1
  simp -implicitDefEqProofs [runD, MissesD, e, c]
/-! ### the laws' own run: all states -/
def statesT (r : Ru) : List Int → Nat → List Int → List (List Int × Nat)
  | row, lab, [] => [(row, lab)]
  | row, lab, t :: ts => (row, lab) :: statesT r (stepT r row lab t).2.2.1 (stepT r row lab t).2.2.2 ts
theorem states_last (r : Ru) : ∀ (ws : List Int) (row : List Int) (lab : Nat), ∃ xs, statesT r row lab ws = xs ++ [(runT r row lab ws).1]
  | [], row, lab => ⟨[], rfl⟩
  | t :: ts, row, lab => by
    obtain ⟨xs, e⟩ := states_last r ts (stepT r row lab t).2.2.1 (stepT r row lab t).2.2.2
    exact ⟨(row, lab) :: xs, by rw [statesT, e]; rfl⟩
theorem states_len (r : Ru) : ∀ (ws : List Int) (row : List Int) (lab : Nat), (statesT r row lab ws).length = ws.length + 1
  | [], row, lab => rfl
  | t :: ts, row, lab => by rw [statesT, List.length_cons, states_len r ts]; rfl
def sV' (x : List Int × Nat) : Val := sV x.1 x.2
theorem doneLoop {nf nk : Nat} (hK : T[nk]? = some LAskD) {r : Ru} (hr : r.ok) {q : Option Slot} : ∀ (ws : List Int) (row : List Int) (lab : Nat) (ss fs ls : List Val) (x5 x6 x7 x8 : Option Slot), StOk r row lab → (∀ t ∈ ws, 0 ≤ t ∧ t ≤ 99) → ss.length + ws.length ≤ 1000 → fs.length + ws.length ≤ 1000 → ls.length + ws.length ≤ 1000 →
    ∃ y5 y6 y7 y8, forLoop (turnB (callN T (k + 1)) [5] (LDoneD_b0 nk nf)) (iV ws) [some (.val r.v), q, some (.own (ss ++ [sV row lab])), some (.own fs), some (.own ls), x5, x6, x7, x8] s =
      .ok .next [some (.val r.v), q, some (.own (ss ++ (statesT r row lab ws).map sV')), some (.own (fs ++ (runT r row lab ws).2.1.map .bl)), some (.own (ls ++ (runT r row lab ws).2.2.map optV)), y5, y6, y7, y8] s
  | [], row, lab, ss, fs, ls, x5, x6, x7, x8, _, _, _, _, _ => ⟨x5, x6, x7, x8, by simp -implicitDefEqProofs [iV, runT, statesT, sV']⟩
  | t :: ts, row, lab, ss, fs, ls, x5, x6, x7, x8, hs, hw, h0, h1, h2 => by
    have ht := hw t List.mem_cons_self
    simp only [List.length_cons] at h0 h1 h2
    obtain ⟨y5, y6, y7, y8, e⟩ := doneLoop hK hr ts (stepT r row lab t).2.2.1 (stepT r row lab t).2.2.2 (ss ++ [sV row lab]) (fs ++ [.bl (stepT r row lab t).1]) (ls ++ [optV (stepT r row lab t).2.1]) (some (.val (.int t))) (some (.val (.bl (stepT r row lab t).1))) (some (.val (optV (stepT r row lab t).2.1))) (some (.val (sV (stepT r row lab t).2.2.1 (stepT r row lab t).2.2.2))) (stepOk hr hs ht.1 ht.2) (fun x hx => hw x (List.mem_cons_of_mem _ hx)) (by simp; omega) (by simp; omega) (by simp; omega)
    refine ⟨y5, y6, y7, y8, ?_⟩
    have e1 := lask (k := k) (s := s) hK hr hs t
    have f0 : (ss ++ [sV row lab]).length < sizeLine := small_line (by simp; omega)
    have f1 : fs.length < sizeLine := small_line (by omega)
    have f2 : ls.length < sizeLine := small_line (by omega)
    have la := atI_last ss (sV row lab)
    have tb : turnB (callN T (k + 1)) [5] (LDoneD_b0 nk nf) (.int t) [some (.val r.v), q, some (.own (ss ++ [sV row lab])), some (.own fs), some (.own ls), x5, x6, x7, x8] s =
        .ok .next [some (.val r.v), q, some (.own (ss ++ [sV row lab] ++ [sV (stepT r row lab t).2.2.1 (stepT r row lab t).2.2.2])), some (.own (fs ++ [.bl (stepT r row lab t).1])), some (.own (ls ++ [optV (stepT r row lab t).2.1])), some (.val (.int t)), some (.val (.bl (stepT r row lab t).1)), some (.val (optV (stepT r row lab t).2.1)), some (.val (sV (stepT r row lab t).2.2.1 (stepT r row lab t).2.2.2))] s := by
      generalize ss ++ [sV row lab] = S at *
      simp -implicitDefEqProofs [turnB, LDoneD_b0, la, e1, resV, f0, f1, f2]
    show forLoop _ (.int t :: iV ts) _ s = _
    rw [forLoop, tb, bind_ok]
    dsimp only
    rw [e]
    simp [runT, statesT, sV']
def doneV (r : Ru) (ws : List Int) : Val := .tup [.lst ((statesT r (firstT r) 0 ws).map sV'), .tup ((runT r (firstT r) 0 ws).2.1.map .bl), .tup ((runT r (firstT r) 0 ws).2.2.map optV)]
theorem ldone {nf nk : Nat} (hK : T[nk]? = some LAskD) (hF : T[nf]? = some LFirstD) (hR : T[n]? = some (LDoneD nk nf)) {r : Ru} (hr : r.ok) {ws : List Int} (hw : reqOk ws) : callN T (k + 2) n [r.v, .tup (iV ws)] s = .ok (.val (doneV r ws)) s := by
  rw [callN_eq hR]
  have e1 := lfirst (k := k) (s := s) hF hr
  obtain ⟨y5, y6, y7, y8, e⟩ := doneLoop (k := k) (s := s) (nf := nf) (q := some (.val (.tup (iV ws)))) hK hr ws (firstT r) 0 [] [] [] none none none none (firstOk hr) hw.2 (by have := hw.1; simp; omega) (by have := hw.1; simp; omega) (by have := hw.1; simp; omega)
  have e2 := (for_tup (i := 1) rfl).trans e
  change exS _ (LDoneD_f0 nk nf) _ s = _ at e2
  rw [List.nil_append] at e2
  simp -implicitDefEqProofs [runD, LDoneD, e1, e2, le_line, doneV]
end
end Gz
/-! Drawn states, drawn requests. -/
namespace Gz
open PySem L2
def Blk : List Int → List Int → Prop
  | [], [] => True
  | n :: ns, m :: ms => (m = n ∨ m = -1) ∧ Blk ns ms
  | _, _ => False
theorem Blk.snoc : ∀ {ns ms : List Int} {n m : Int}, Blk ns ms → (m = n ∨ m = -1) → Blk (ns ++ [n]) (ms ++ [m])
  | [], [], _, _, _, h => ⟨h, trivial⟩
  | [], _ :: _, _, _, h, _ => h.elim
  | _ :: _, [], _, _, h, _ => h.elim
  | _ :: ns, _ :: ms, _, _, h, q => ⟨h.1, Blk.snoc h.2 q⟩
theorem Blk.mem : ∀ {ns ms : List Int}, Blk ns ms → ∀ x ∈ ms, x = -1 ∨ x ∈ ns
  | [], [], _, x, hx => by simp at hx
  | [], _ :: _, h, _, _ => h.elim
  | _ :: _, [], h, _, _ => h.elim
  | n :: ns, m :: ms, h, x, hx => by
    rcases List.mem_cons.mp hx with rfl | hx
    · rcases h.1 with h1 | h1
      · exact .inr (by rw [h1]; exact List.mem_cons_self)
      · exact .inl h1
    · exact (Blk.mem h.2 x hx).imp id (List.mem_cons_of_mem _)
theorem Blk.count : ∀ {ns ms : List Int}, Blk ns ms → ∀ x, x ≠ -1 → ms.count x ≤ ns.count x
  | [], [], _, x, _ => by simp
  | [], _ :: _, h, _, _ => h.elim
  | _ :: _, [], h, _, _ => h.elim
  | n :: ns, m :: ms, h, x, hx => by
    have ih := Blk.count h.2 x hx
    rw [List.count_cons, List.count_cons]
    rcases h.1 with rfl | rfl
    · omega
    · have : ((-1 : Int) == x) = false := beq_eq_false_iff_ne.mpr (Ne.symm hx)
      rw [this]
      simp
      omega
theorem Blk.len : ∀ {ns ms : List Int}, Blk ns ms → ms.length = ns.length
  | [], [], _ => rfl
  | [], _ :: _, h => h.elim
  | _ :: _, [], h => h.elim
  | n :: ns, m :: ms, h => by rw [List.length_cons, List.length_cons, Blk.len h.2]
theorem iV_perm {ys : List Val} {ns : List Int} (h : ys.Perm (iV ns)) : ∃ ms, ys = iV ms ∧ ms.Perm ns := by
  obtain ⟨ms, rfl⟩ : ∃ ms : List Int, ys = iV ms := by
    have : ∀ y ∈ ys, ∃ z : Int, y = .int z := fun y hy => by
      obtain ⟨z, _, e⟩ := List.mem_map.mp (h.mem_iff.mp hy)
      exact ⟨z, e.symm⟩
    clear h
    induction ys with
    | nil => exact ⟨[], rfl⟩
    | cons y ys ih =>
      obtain ⟨z, rfl⟩ := this y List.mem_cons_self
      obtain ⟨ns, rfl⟩ := ih fun y hy => this y (List.mem_cons_of_mem _ hy)
      exact ⟨z :: ns, rfl⟩
  refine ⟨ms, rfl, ?_⟩
  have := h.filterMap (fun v => match v with | .int z => some z | _ => none)
  simpa [iV, List.filterMap_map, Function.comp_def] using this
def nine : List Int := [0, 1, 2, 3, 4, 5, 6, 98, 99]
def names13 : List Int := [0, 1, 2, 3, 4, 5, 6, 7, 8, 9, 50, 98, 99]
section
variable {T : List Def} {k nd nx nl i np : Nat} {s : Sto} {n : Int}
/-- a drawn state -/
theorem lstate (hD : T[nd]? = some Draw) (hX : T[nx]? = some (MixD nd)) (hL : T[nl]? = some (LStateD nd nx)) {r : Ru} (hr : r.ok) (hp : Pen s i n) (hn : n + 100 < 1000000000000000000) :
    ∃ row lab s', callN T (k + 3) nl [.loc i, r.v] s = .ok (.val (sV row lab)) s' ∧ StOk r row lab ∧ Pen s' i (n + 30) ∧ s'.length = s.length := by
  have p1 := hr.p1
  have p4 := hr.p4
  have l1 := hr.l1
  have l16 := hr.l16
  obtain ⟨ys, s1, e1, pm, q1, ln1⟩ := mixed (k := k) (v := .lst (iV nine)) (.inl rfl) hX hD hp (by show n + (9 : Nat) < _; omega) (by decide)
  obtain ⟨ms, rfl, pm2⟩ := iV_perm pm
  clear pm
  have pm := pm2
  have q1 : Pen s1 i (n + 9) := q1
  obtain ⟨b, s2, e2, b1, b2, q2, ln2⟩ := draw (k := k + 1) hD q1 (by omega) (m := 3) (by decide) (by decide)
  have c1 : cut (iV ms) none (some (r.p : Int)) = (iV ms).take r.p := cut_hi _ _
  have tk : (iV ms).take r.p = iV (ms.take r.p) := by unfold iV; rw [List.map_take]
  have mlen : ms.length = 9 := by rw [pm.length_eq]; rfl
  have tlen : (ms.take r.p).length = r.p := by rw [List.length_take]; omega
  -- the blanks
  have loop : ∀ A B : Option Slot, ∃ ws s3, evE (callN T (k + 2)) (LStateD_l0 nd nx) [some (.val (.loc i)), A, some (.own (iV (ms.take r.p))), some (.val (.int b)), none] s2 = .ok (.fr (iV ws)) [some (.val (.loc i)), A, some (.val (.lst (iV (ms.take r.p)))), some (.val (.int b)), none] s3 ∧ Blk (ms.take r.p) ws ∧ Pen s3 i (n + 20) ∧ s3.length = s2.length := by
    intro A B
    unfold LStateD_l0
    rw [ev_lc]
    have e : evI (callN T (k + 2)) (.seq (.var 2)) [some (.val (.loc i)), A, some (.own (iV (ms.take r.p))), some (.val (.int b)), none] s2 = .ok (iV (ms.take r.p)) [some (.val (.loc i)), A, some (.val (.lst (iV (ms.take r.p)))), some (.val (.int b)), none] s2 := by simp -implicitDefEqProofs
    rw [e, bind_ok]
    generalize hts : ms.take r.p = ts at *
    obtain ⟨acc, r', s3, e3, ws, rfl, rfl, bk, q3, ln3⟩ := lc_ok (f := turnF (callN T (k + 2)) [4] .no (.ite (.and (.cmp .eq (.var 3) (.cst (.int 0))) (.cmp .eq (.call nd (.cons (.var 0) (.cons (.cst (.int 2)) .nil))) (.cst (.int 0)))) (.neg (.cst (.int 1))) (.var 4)))
      (fun j acc r' s' => ∃ ws, acc = iV ws ∧ r' = [some (.val (.loc i)), A, some (.val (.lst (iV ts))), some (.val (.int b)), none] ∧ Blk (ts.take j) ws ∧ Pen s' i (n + 10 + j) ∧ s'.length = s2.length)
      (xs := iV ts) (r := wipeR [some (.val (.loc i)), A, some (.val (.lst (iV ts))), some (.val (.int b)), none] [4]) (s := s2) ⟨[], rfl, rfl, trivial, by simpa using q2.le (by omega), rfl⟩ (by rw [iV_len, tlen]; exact le_line (by omega)) (fun j x acc r' s' hx hI => by
        obtain ⟨ws, rfl, rfl, bk, q3, ln3⟩ := hI
        have hj : j < ts.length := by have := lt_of_get hx; simpa using this
        have hx' : x = .int ts[j] := by
          unfold iV at hx
          rw [List.getElem?_map, List.getElem?_eq_getElem hj] at hx
          exact (Option.some.inj hx).symm
        subst hx'
        have tj : ts.take (j + 1) = ts.take j ++ [ts[j]] := (List.take_append_getElem hj).symm
        by_cases hb : b = 0
        · subst hb
          obtain ⟨d, s4, e4, d1, d2, q4, ln4⟩ := draw (k := k + 1) hD q3 (by omega) (m := 2) (by decide) (by decide)
          by_cases hd : d = 0
          · subst hd
            refine ⟨some (.int (-1)), [some (.val (.loc i)), A, some (.val (.lst (iV ts))), some (.val (.int 0)), none], s4, ?_, ws ++ [-1], by simp [addO, iV], rfl, by rw [tj]; exact bk.snoc (.inr rfl), q4.le (by omega), by omega⟩
            simp -implicitDefEqProofs [turnF, e4]
          · refine ⟨some (.int ts[j]), [some (.val (.loc i)), A, some (.val (.lst (iV ts))), some (.val (.int 0)), none], s4, ?_, ws ++ [ts[j]], by simp [addO, iV], rfl, by rw [tj]; exact bk.snoc (.inl rfl), q4.le (by omega), by omega⟩
            simp -implicitDefEqProofs [turnF, e4, beq_eq_false_iff_ne.mpr hd]
        · refine ⟨some (.int ts[j]), [some (.val (.loc i)), A, some (.val (.lst (iV ts))), some (.val (.int b)), none], s', ?_, ws ++ [ts[j]], by simp [addO, iV], rfl, by rw [tj]; exact bk.snoc (.inl rfl), q3.le (by omega), ln3⟩
          simp -implicitDefEqProofs [turnF, beq_eq_false_iff_ne.mpr hb])
    rw [e3]
    rw [iV_len, tlen] at q3 bk
    rw [List.take_of_length_le (by omega)] at bk
    exact ⟨ws, s3, by simp, bk, q3.le (by omega), ln3⟩
  obtain ⟨ws, s3, e3, bk, q3, ln3⟩ := loop (some (.val r.v)) none
  obtain ⟨lab, s4, e4, d1, d2, q4, ln4⟩ := draw (k := k + 1) hD q3 (by omega) (m := (r.rows.length : Int)) (by omega) (by omega)
  obtain ⟨lb, rfl⟩ : ∃ lb : Nat, lab = lb := ⟨lab.toNat, by omega⟩
  refine ⟨ws, lb, s4, ?_, ⟨by rw [bk.len, tlen], fun x hx => ?_, fun x hx hn => ?_, by omega⟩, q4.le (by omega), by omega⟩
  · rw [callN_eq hL]
    have at0 : atI [Val.int r.p, .tup (r.rows.map Lr.v)] 0 = some (.int r.p) := rfl
    change evE _ _ _ _ = _ at e3
    have e1' : callN T (k + 2) nx [.loc i, .lst [.int 0, .int 1, .int 2, .int 3, .int 4, .int 5, .int 6, .int 98, .int 99]] s = .ok (.fr (iV ms)) s1 := e1
    rw [Ru.v] at e3
    simp -implicitDefEqProofs [runD, LStateD, Ru.v, e1', le_line, c1, tk, e2, e3, e4, sV]
  · rcases bk.mem x hx with rfl | h
    · omega
    · have := pm.mem_iff.mp (List.mem_of_mem_take h)
      revert this
      have : ∀ y ∈ nine, -1 ≤ y ∧ y ≤ 99 := by decide
      exact this x
  · have c := bk.count x hn
    have c2 : (ms.take r.p).count x ≤ ms.count x := (List.take_sublist _ _).count_le _
    have c3 : ms.count x ≤ 1 := by
      rw [pm.count_eq]
      exact List.nodup_iff_count.mp (by decide) x
    have c4 : 0 < ws.count x := List.count_pos_iff.mpr hx
    omega
/-- drawn requests -/
theorem wishes (hD : T[nd]? = some Draw) (hP : T[np]? = some (PickD nd)) (hX : T[nx]? = some (MixD nd)) (hL : T[nl]? = some (WishesD nd np nx)) {most many : Int} (hm0 : 0 ≤ most) (hm : most ≤ 60) (hy0 : 1 ≤ many) (hy : many ≤ 13) (hp : Pen s i n) (hn : n + 200 < 1000000000000000000) :
    ∃ ws s', callN T (k + 3) nl [.loc i, .int most, .int many] s = .ok (.val (.tup (iV ws))) s' ∧ (ws.length : Int) ≤ most ∧ (∀ t ∈ ws, t ∈ names13) ∧ Pen s' i (n + 100) ∧ s'.length = s.length := by
  obtain ⟨ys, s1, e1, pm, q1, ln1⟩ := mixed (k := k) (v := .lst (iV names13)) (.inl rfl) hX hD hp (by show n + (13 : Nat) < _; omega) (by decide)
  obtain ⟨ms, rfl, pm2⟩ := iV_perm pm
  clear pm
  have q1 : Pen s1 i (n + 13) := q1
  obtain ⟨b, s2, e2, b1, b2, q2, ln2⟩ := draw (k := k + 1) hD q1 (by omega) (m := many) (by omega) (by omega)
  obtain ⟨bn, rfl⟩ : ∃ bn : Nat, b = bn := ⟨b.toNat, by omega⟩
  have c1 : cut (iV ms) none (some (1 + (bn : Int))) = iV (ms.take (bn + 1)) := by rw [cut_hi1]; unfold iV; rw [List.map_take]
  have mlen : ms.length = 13 := by rw [pm2.length_eq]; rfl
  have tlen : (ms.take (bn + 1)).length = bn + 1 := by rw [List.length_take]; omega
  obtain ⟨c, s3, e3, c2, c3, q3, ln3⟩ := draw (k := k + 1) hD q2 (by omega) (m := most + 1) (by omega) (by omega)
  have loop : ∃ ws s4, evE (callN T (k + 2)) (WishesD_l0 nd np nx) [some (.val (.loc i)), some (.val (.int most)), some (.val (.int many)), some (.own (iV (ms.take (bn + 1)))), none] s2 = .ok (.fr (iV ws)) [some (.val (.loc i)), some (.val (.int most)), some (.val (.int many)), some (if c = 0 then .own (iV (ms.take (bn + 1))) else .val (.lst (iV (ms.take (bn + 1))))), none] s4 ∧ (ws.length : Int) = c ∧ (∀ t ∈ ws, t ∈ names13) ∧ Pen s4 i (n + 100) ∧ s4.length = s3.length := by
    unfold WishesD_l0
    rw [ev_lc]
    have e : evI (callN T (k + 2)) (.rng .no (.call nd (.cons (.var 0) (.cons (.bin .add (.var 1) (.cst (.int 1))) .nil)))) [some (.val (.loc i)), some (.val (.int most)), some (.val (.int many)), some (.own (iV (ms.take (bn + 1)))), none] s2 = .ok ((rngI 0 c).map .int) [some (.val (.loc i)), some (.val (.int most)), some (.val (.int many)), some (.own (iV (ms.take (bn + 1)))), none] s3 := by
      simp -implicitDefEqProofs [e3, rng_small (n := c) (by omega) (by omega)]
    rw [e, bind_ok]
    have clen : ((rngI 0 c).map Val.int).length = c.toNat := by rw [List.length_map, rng_len0]
    generalize hts : ms.take (bn + 1) = ts at *
    obtain ⟨acc, r', s4, e4, ws, rfl, rfl, hl, hm2, q4, ln4⟩ := lc_ok (f := turnF (callN T (k + 2)) [4] .no (.call np (.cons (.var 0) (.cons (.var 3) .nil))))
      (fun j acc r' s' => ∃ ws, acc = iV ws ∧ r' = [some (.val (.loc i)), some (.val (.int most)), some (.val (.int many)), some (if j = 0 then .own (iV ts) else .val (.lst (iV ts))), none] ∧ ws.length = j ∧ (∀ t ∈ ws, t ∈ names13) ∧ Pen s' i (n + 20 + j) ∧ s'.length = s3.length)
      (xs := (rngI 0 c).map Val.int) (r := wipeR [some (.val (.loc i)), some (.val (.int most)), some (.val (.int many)), some (.own (iV ts)), none] [4]) (s := s3) ⟨[], rfl, rfl, rfl, by simp, by simpa using q3.le (by omega), rfl⟩ (by rw [clen]; exact le_line (by omega)) (fun j x acc r' s' hx hI => by
        obtain ⟨ws, rfl, rfl, hl, hm2, q4, ln4⟩ := hI
        have hj : j < c.toNat := by have := lt_of_get hx; omega
        obtain ⟨v, s5, e5, hv, q5, ln5⟩ := pick (k := k) hP hD q4 (by omega) (xs := iV ts) (by intro z; have := congrArg List.length z; rw [iV_len, List.length_nil] at this; omega) (by rw [iV_len]; omega)
        obtain ⟨t, ht, rfl⟩ := List.mem_map.mp hv
        have ht' : t ∈ names13 := pm2.mem_iff.mp (List.mem_of_mem_take (hts ▸ ht))
        refine ⟨some (.int t), [some (.val (.loc i)), some (.val (.int most)), some (.val (.int many)), some (.val (.lst (iV ts))), none], s5, ?_, ws ++ [t], by simp [addO, iV], by simp, by simp [hl], ?_, q5.le (by omega), by omega⟩
        · by_cases hj0 : j = 0
          · subst hj0
            simp -implicitDefEqProofs [turnF, e5]
          · simp -implicitDefEqProofs [turnF, e5, hj0]
        · intro z hz
          rcases List.mem_append.mp hz with h | h
          · exact hm2 z h
          · rw [List.mem_singleton.mp h]; exact ht')
    rw [e4]
    rw [clen] at *
    refine ⟨ws, s4, ?_, by omega, hm2, q4.le (by omega), ln4⟩
    by_cases hc : c = 0
    · subst hc; simp
    · have : ¬ c.toNat = 0 := by omega
      have : ¬ c ≤ 0 := by omega
      simp [hc, this]
  obtain ⟨ws, s4, e4, w1, w2, q4, ln4⟩ := loop
  refine ⟨ws, s4, ?_, by omega, w2, q4, by omega⟩
  rw [callN_eq hL]
  have e1' : callN T (k + 2) nx [.loc i, .lst [.int 0, .int 1, .int 2, .int 3, .int 4, .int 5, .int 6, .int 7, .int 8, .int 9, .int 50, .int 98, .int 99]] s = .ok (.fr (iV ms)) s1 := e1
  simp -implicitDefEqProofs [runD, WishesD, e1', le_line, c1, e2, e4]
theorem names_bd {t : Int} (h : t ∈ names13) : 0 ≤ t ∧ t ≤ 99 := by
  have : ∀ y ∈ names13, 0 ≤ y ∧ y ≤ 99 := by decide
  exact this t h
end
end Gz
/-! What may be shown, in one word; the law's outer loop. -/
namespace Gz
open PySem L2
structure Fit (v : Val) (d w : Nat) : Prop where
  f : fine v = true
  d : dp v ≤ d
  w : wt v ≤ w
theorem Fit.le {v : Val} {d w d' w' : Nat} (h : Fit v d w) (h1 : d ≤ d') (h2 : w ≤ w') : Fit v d' w' := ⟨h.f, Nat.le_trans h.d h1, Nat.le_trans h.w h2⟩
theorem Fit.tup {xs : List Val} {d w : Nat} (h : ∀ x ∈ xs, Fit x d w) : Fit (.tup xs) (d + 1) (xs.length * (w + 2) + 3) := by
  have a := wts_le (b := w) fun x hx => (h x hx).w
  have b := dps_le.mpr fun x hx => (h x hx).d
  exact ⟨by rw [fine]; exact fines_iff.mpr fun x hx => (h x hx).f, by rw [dp]; omega, by rw [wt]; omega⟩
theorem Fit.lst {xs : List Val} {d w : Nat} (h : ∀ x ∈ xs, Fit x d w) : Fit (.lst xs) (d + 1) (xs.length * (w + 2) + 3) := by
  have a := wts_le (b := w) fun x hx => (h x hx).w
  have b := dps_le.mpr fun x hx => (h x hx).d
  exact ⟨by rw [fine]; exact fines_iff.mpr fun x hx => (h x hx).f, by rw [dp]; omega, by rw [wt]; omega⟩
theorem Fit.int {i : Int} (h1 : -(10 ^ 20) ≤ i) (h2 : i ≤ 10 ^ 20) : Fit (.int i) 0 1921 := ⟨fine_i h1 h2, Nat.le_refl _, Nat.le_refl _⟩
theorem Fit.bl {b : Bool} : Fit (.bl b) 0 1921 := ⟨rfl, Nat.le_refl _, by rw [wt]; omega⟩
theorem Fit.non : Fit .non 0 1921 := ⟨rfl, Nat.le_refl _, by rw [wt]; omega⟩
theorem Fit.opt {o : Option Int} (h : ∀ x, o = some x → 0 ≤ x ∧ x ≤ 99) : Fit (optV o) 0 1921 := by
  cases o with
  | none => exact .non
  | some x => have := h x rfl; exact .int (by omega) (by omega)
theorem Fit.ints {ns : List Int} (h : ∀ n ∈ ns, -(10 ^ 20) ≤ n ∧ n ≤ 10 ^ 20) : Fit (.tup (iV ns)) 1 (ns.length * 1923 + 3) := by
  have := Fit.tup (xs := iV ns) (d := 0) (w := 1921) fun x hx => by
    obtain ⟨n, hn, rfl⟩ := List.mem_map.mp hx
    exact .int (h n hn).1 (h n hn).2
  simpa using this
theorem Fit.bools {bs : List Bool} : Fit (.tup (bs.map .bl)) 1 (bs.length * 1923 + 3) := by
  have := Fit.tup (xs := bs.map .bl) (d := 0) (w := 1921) fun x hx => by
    obtain ⟨n, hn, rfl⟩ := List.mem_map.mp hx
    exact .bl
  simpa using this
theorem Fit.opts {os : List (Option Int)} (h : ∀ o ∈ os, ∀ x, o = some x → 0 ≤ x ∧ x ≤ 99) : Fit (.tup (os.map optV)) 1 (os.length * 1923 + 3) := by
  have := Fit.tup (xs := os.map optV) (d := 0) (w := 1921) fun x hx => by
    obtain ⟨n, hn, rfl⟩ := List.mem_map.mp hx
    exact .opt (h n hn)
  simpa using this
theorem Fit.rep {v : Val} {d w : Nat} (h : Fit v d w) (h1 : d ≤ 60) (h2 : w ≤ 8000000) : ∃ z, Gz.rep v = some z := rep_fine h.f (Nat.le_trans h.d h1) (Nat.le_trans h.w (le_line2 h2))
theorem Ru.ok.fit {r : Ru} (h : r.ok) : Fit r.v 6 2000000 := ⟨h.fine.1, h.fine.2.1, h.fine.2.2⟩
theorem StOk.fit {r : Ru} (hr : r.ok) {row : List Int} {lab : Nat} (h : StOk r row lab) : Fit (sV row lab) 2 20000 := ⟨(h.fine hr).1, (h.fine hr).2.1, (h.fine hr).2.2⟩
theorem reqOk.fit {ws : List Int} (h : reqOk ws) : Fit (.tup (iV ws)) 1 120000 := ⟨h.fine.1, h.fine.2.1, h.fine.2.2⟩
/-- a value and itself -/
theorem same_self {T : List Def} {k f d w : Nat} {s : Sto} {v : Val} (hT : T[f]? = some SameD) (h : Fit v d w) (h1 : d ≤ 60) (h2 : w ≤ 8000000) : callN T (k + 1) f [v, v] s = .ok (.val (.bl true)) s := by
  obtain ⟨z, e⟩ := h.rep h1 h2
  rw [same hT h.f h.f e e]
  simp
def OuterF (C : Int) (b : CSs) : CS := .for_ [1] (.rng .no (.blt .max2 (.cons (.cst (.int 1)) (.cons (.blt .min2 (.cons (.bltV .len 0) (.cons (.cst (.int C)) .nil))) .nil)))) b
def OuterD (C : Int) (m : Nat) (b : CSs) : Def := ⟨1, m + 1, (.cons (OuterF C b) (.cons (.ret (.cst (.bl true))) .nil))⟩
theorem outer {F : FT} {C : Int} {ns : List Int} (h1 : 1 ≤ C) (h2 : C ≤ 1000) {b : CSs} {m : Nat}
    (turn : ∀ (j : Nat) (xs : List (Option Slot)) (s : Sto), xs.length = m → ∃ ys s', turnB F [1] b (.int j) (some (.val (.fz ns)) :: xs) s = .ok .next (some (.val (.fz ns)) :: ys) s' ∧ ys.length = m) (s : Sto) {xs : List (Option Slot)} (hx : xs.length = m) :
    ∃ r' s', exS F (OuterF C b) (some (.val (.fz ns)) :: xs) s = .ok .next r' s' := by
  unfold OuterF
  rw [ex_for]
  obtain ⟨q, e, q1, q2⟩ : ∃ q : Int, evI F (.rng .no (.blt .max2 (.cons (.cst (.int 1)) (.cons (.blt .min2 (.cons (.bltV .len 0) (.cons (.cst (.int C)) .nil))) .nil)))) (some (.val (.fz ns)) :: xs) s = .ok ((rngI 0 q).map .int) (some (.val (.fz ns)) :: xs) s ∧ 0 ≤ q ∧ q ≤ 1000 := by
    refine ⟨if (if C < (ns.length : Int) then C else (ns.length : Int)) > 1 then (if C < (ns.length : Int) then C else (ns.length : Int)) else 1, ?_, by split <;> split <;> omega, by split <;> split <;> omega⟩
    have := rng_small (n := if (if C < (ns.length : Int) then C else (ns.length : Int)) > 1 then (if C < (ns.length : Int) then C else (ns.length : Int)) else 1) (by split <;> split <;> omega) (by split <;> split <;> omega)
    simp -implicitDefEqProofs only [evI, evO, bind_ok, evE, evA, peek, deref, List.getElem?_cons_zero, Option.bind_some, l_fz, lift_some, frz, v_val, b_min2, b_max2, Option.getD_none, this, if_true]
  rw [e, bind_ok]
  obtain ⟨r', s', e2, _⟩ := for_ok (f := turnB F [1] b) (fun j r s => ∃ ys, r = some (.val (.fz ns)) :: ys ∧ ys.length = m) (xs := (rngI 0 q).map Val.int) (s := s) ⟨xs, rfl, hx⟩ (fun j x r s1 hx hI => by
    obtain ⟨ys, rfl, hy⟩ := hI
    have := rng_get hx
    subst this
    have z : (0 : Int) + (j : Nat) = (j : Nat) := by omega
    rw [z]
    obtain ⟨zs, s', e, hz⟩ := turn j ys s1 hy
    exact ⟨_, s', e, zs, rfl, hz⟩)
  exact ⟨r', s', e2⟩
theorem says_of {T : List Def} {k f m : Nat} {C : Int} {b : CSs} {ns : List Int} (hT : T[f]? = some (OuterD C m b)) (h1 : 1 ≤ C) (h2 : C ≤ 1000)
    (turn : ∀ (j : Nat) (xs : List (Option Slot)) (s : Sto), xs.length = m → ∃ ys s', turnB (callN T k) [1] b (.int j) (some (.val (.fz ns)) :: xs) s = .ok .next (some (.val (.fz ns)) :: ys) s' ∧ ys.length = m) : Says (callN T (k + 1)) f ns := by
  obtain ⟨r', s', e⟩ := outer h1 h2 turn [] (xs := List.replicate m none) (List.length_replicate ..)
  refine ⟨s', ?_⟩
  rw [callN_eq hT]
  unfold runD OuterD
  have : m + 1 - 1 = m := by omega
  simp -implicitDefEqProofs [e, this]
/-- the head of each turn: a cell, a pen -/
theorem cell_pen {T : List Def} {k nc np : Nat} {s : Sto} {ns : List Int} {j : Nat} (hC : T[nc]? = some CellD) (hP : T[np]? = some PenD) : ∃ z s1, callN T (k + 1) nc [.fz ns, .int j] s = .ok (.val (.int z)) s ∧ callN T (k + 1) np [.int z] s = .ok (.val (.loc s.length)) s1 ∧ Pen s1 s.length 0 ∧ s1.length = s.length + 1 := by
  obtain ⟨z, e1⟩ := cell (k := k) (s := s) (ns := ns) (j := j) hC
  obtain ⟨s1, e2, p, l⟩ := pen (k := k) (s := s) (z := z) hP
  exact ⟨z, s1, e1, e2, p, l⟩
theorem rng_list {F : FT} {c : Int} {r : Rho} {s : Sto} (h1 : 0 ≤ c) (h2 : c ≤ 1000) : evI F (.rng .no (.cst (.int c))) r s = .ok ((rngI 0 c).map .int) r s := by
  simp -implicitDefEqProofs [rng_small (n := c) h1 (by omega)]
theorem rngLen {c : Int} : ((rngI 0 c).map Val.int).length = c.toNat := by rw [List.length_map, rng_len0]
end Gz
/-! Loops that look and change nothing. -/
namespace Gz
open PySem L2
theorem for_look {f : Val → Rho → Sto → Rs Fl} {R : Option Slot → Rho} {s : Sto} : ∀ {xs : List Val} {y : Option Slot}, (∀ x ∈ xs, ∀ y, f x (R y) s = .ok .next (R (some (.val x))) s) → ∃ y', forLoop f xs (R y) s = .ok .next (R y') s
  | [], y, _ => ⟨y, by rw [forLoop]⟩
  | x :: xs, y, h => by
    obtain ⟨y', e⟩ := for_look (xs := xs) (y := some (.val x)) fun z hz y => h z (List.mem_cons_of_mem _ hz) y
    refine ⟨y', ?_⟩
    rw [forLoop, h x List.mem_cons_self y, bind_ok]
    exact e
theorem for_all {f : Val → Rho → Sto → Rs Fl} {R : Option Slot → Rho} {s : Sto} (good : Val → Bool) : ∀ {xs : List Val} {y : Option Slot}, (∀ x ∈ xs, ∀ y, f x (R y) s = .ok (if good x then .next else .ret (.val (.bl false))) (R (some (.val x))) s) → ∃ y', forLoop f xs (R y) s = .ok (if xs.all good then .next else .ret (.val (.bl false))) (R y') s
  | [], y, _ => ⟨y, by rw [forLoop]; rfl⟩
  | x :: xs, y, h => by
    obtain ⟨y', e⟩ := for_all good (xs := xs) (y := some (.val x)) fun z hz y => h z (List.mem_cons_of_mem _ hz) y
    cases hg : good x with
    | true =>
      refine ⟨y', ?_⟩
      rw [forLoop, h x List.mem_cons_self y, bind_ok, hg]
      simp only [if_true, List.all_cons, hg, Bool.true_and]
      exact e
    | false =>
      refine ⟨some (.val x), ?_⟩
      rw [forLoop, h x List.mem_cons_self y, bind_ok, hg]
      simp [List.all_cons, hg]
theorem elEqs_fine {i : Int} : ∀ {xs : List Val}, (∀ x ∈ xs, fine x = true) → elEqs (.int i) xs = some (xs.map fun z => flatEq z (.int i))
  | [], _ => rfl
  | x :: xs, h => by
    have e : elEq x (.int i) = some (flatEq x (.int i)) := by
      have := h x List.mem_cons_self
      cases x <;> first | rfl | simp [fine] at this
    rw [elEqs, e, elEqs_fine fun y hy => h y (List.mem_cons_of_mem _ hy)]; rfl
theorem mth_count_fine {i : Int} {xs : List Val} (h : ∀ x ∈ xs, fine x = true) : mthop .count (.tup xs) [.int i] = some (.int (xs.countP (fun z => flatEq z (.int i)) : Nat)) := by
  show seqMt .count xs (.int i) = _
  unfold seqMt
  rw [elEqs_fine h]
  dsimp only
  rw [List.countP_map]; rfl
theorem res_fit {r : Ru} (hr : r.ok) {row : List Int} {lab : Nat} (hs : StOk r row lab) {t : Int} (h0 : 0 ≤ t) (h9 : t ≤ 99) : Fit (resV (stepT r row lab t)) 3 100000 := by
  refine (Fit.tup (d := 2) (w := 20000) fun x hx => ?_).le (by omega) (by simp)
  simp only [List.mem_cons, List.not_mem_nil, or_false] at hx
  rcases hx with rfl | rfl | rfl
  · exact Fit.bl.le (by omega) (by omega)
  · exact (Fit.opt (stepGone hr hs)).le (by omega) (by omega)
  · exact (stepOk hr hs h0 h9).fit hr
end Gz
/-! Rules of one label that do what a list of things does. -/
namespace Gz
open PySem L2
def insAt {α : Type} (n : Nat) (x : α) (l : List α) : List α := l.take n ++ x :: l.drop n
theorem insAt_map {α β : Type} (f : α → β) (n : Nat) (x : α) (l : List α) : (insAt n x l).map f = insAt n (f x) (l.map f) := by
  unfold insAt
  rw [List.map_append, List.map_cons, List.map_take, List.map_drop]
theorem insAt_perm {α : Type} (n : Nat) (x : α) (l : List α) : (insAt n x l).Perm (x :: l) := by
  unfold insAt
  refine List.perm_middle.trans ?_
  rw [List.take_append_drop]
theorem insAt_len {α : Type} (n : Nat) (x : α) (l : List α) : (insAt n x l).length = l.length + 1 := by rw [(insAt_perm n x l).length_eq]; rfl
theorem insAt_append {α : Type} {n : Nat} {x : α} {l m : List α} (h : n ≤ l.length) : insAt n x (l ++ m) = insAt n x l ++ m := by
  unfold insAt
  rw [List.take_append_of_le_length h, List.drop_append_of_le_length h]
  simp
/-- hits: to the front, or as they are; out: a place; what comes: to a place as far as d -/
def lHit (p : Nat) (hf : Bool) (j : Nat) : List Nat := if hf then j :: (List.range p).eraseIdx j else List.range p
def lCome (p d j : Nat) : List Nat := insAt (min j d) j ((List.range p).eraseIdx j)
def lRule (p d : Nat) (hf : Bool) (o : Nat) : Ru := ⟨p, [⟨(List.range p).map fun j => ⟨lHit p hf j, 0⟩, o, (List.range p).map fun j => ⟨lCome p d j, 0⟩⟩]⟩
theorem erase_range {p j : Nat} (h : j < p) : (j :: (List.range p).eraseIdx j).Perm (List.range p) := by
  have e : (List.range p)[j]? = some j := by rw [List.getElem?_range h]
  obtain ⟨hl, he⟩ := List.getElem?_eq_some_iff.mp e
  have q : (List.range p).take j ++ (List.range p).drop j = List.range p := List.take_append_drop j _
  rw [List.drop_eq_getElem_cons hl, he] at q
  rw [List.eraseIdx_eq_take_drop_succ]
  conv => rhs; rw [← q]
  exact List.perm_middle.symm
theorem lRule_ok {p d o : Nat} {hf : Bool} (h1 : 1 ≤ p) (h4 : p ≤ 4) (ho : o < p) : (lRule p d hf o).ok := by
  refine ⟨h1, h4, Nat.le_refl _, by show 1 ≤ 16; decide, fun x hx => ?_⟩
  have : x = ⟨(List.range p).map fun j => ⟨lHit p hf j, 0⟩, o, (List.range p).map fun j => ⟨lCome p d j, 0⟩⟩ := by simpa [lRule] using hx
  subst this
  refine ⟨⟨by simp [lRule], fun m hm => ?_⟩, ho, by simp [lRule], fun m hm => ?_⟩
  · obtain ⟨j, hj, rfl⟩ := List.mem_map.mp hm
    refine ⟨?_, by show 0 < 1; decide⟩
    show (lHit p hf j).Perm (List.range p)
    unfold lHit
    split
    · exact erase_range (List.mem_range.mp hj)
    · exact List.Perm.refl _
  · obtain ⟨j, hj, rfl⟩ := List.mem_map.mp hm
    refine ⟨?_, by show 0 < 1; decide⟩
    exact (insAt_perm _ _ _).trans (erase_range (List.mem_range.mp hj))
/-! ### what an order does -/
theorem map_eraseIdx {α β : Type} (f : α → β) : ∀ (l : List α) (j : Nat), (l.eraseIdx j).map f = (l.map f).eraseIdx j
  | [], j => by simp
  | a :: l, 0 => by simp
  | a :: l, j + 1 => by simp [map_eraseIdx f l j]
theorem arr_front {row : List Int} {j : Nat} : arrT row (j :: (List.range row.length).eraseIdx j) = gt row j :: row.eraseIdx j := by
  have := arr_range row
  unfold arrT at this ⊢
  rw [List.map_cons, map_eraseIdx, this]
theorem arr_come {row : List Int} {j n : Nat} : arrT row (insAt n j ((List.range row.length).eraseIdx j)) = insAt n (gt row j) (row.eraseIdx j) := by
  have := arr_range row
  unfold arrT at this ⊢
  rw [insAt_map, map_eraseIdx, this]
/-! ### the list -/
def lstep (p d : Nat) (hf : Bool) (o : Nat) (l : List Int) (t : Int) : Bool × Option Int × List Int :=
  if t ∈ l then (true, none, if hf then t :: l.erase t else l)
  else if l.length = p then (false, some (gt l o), insAt (min d (p - 1)) t (l.eraseIdx o))
  else (false, none, insAt (min d l.length) t l)
def lrun (p d : Nat) (hf : Bool) (o : Nat) : List Int → List Int → List Int × List Bool × List (Option Int)
  | l, [] => (l, [], [])
  | l, t :: ts => ((lrun p d hf o (lstep p d hf o l t).2.2 ts).1, (lstep p d hf o l t).1 :: (lrun p d hf o (lstep p d hf o l t).2.2 ts).2.1, (lstep p d hf o l t).2.1 :: (lrun p d hf o (lstep p d hf o l t).2.2 ts).2.2)
structure LOk (p : Nat) (l : List Int) : Prop where
  len : l.length ≤ p
  nd : l.Nodup
  bd : ∀ x ∈ l, 0 ≤ x ∧ x ≤ 99
def pad (p : Nat) (l : List Int) : List Int := l ++ List.replicate (p - l.length) (-1)
theorem pad_len {p : Nat} {l : List Int} (h : l.length ≤ p) : (pad p l).length = p := by unfold pad; rw [List.length_append, List.length_replicate]; omega
theorem mem_pad {p : Nat} {l : List Int} {t : Int} (h0 : 0 ≤ t) : t ∈ pad p l ↔ t ∈ l := by
  unfold pad
  rw [List.mem_append]
  constructor
  · rintro (h | h)
    · exact h
    · have := List.eq_of_mem_replicate h; omega
  · exact .inl
theorem blank_pad {p : Nat} {l : List Int} (h : LOk p l) : -1 ∈ pad p l ↔ l.length < p := by
  unfold pad
  rw [List.mem_append, List.mem_replicate]
  constructor
  · rintro (q | q)
    · have := h.bd _ q; omega
    · omega
  · intro q; exact .inr ⟨by omega, rfl⟩
theorem idx_blank {p : Nat} {l : List Int} (h : LOk p l) (hl : l.length < p) : (pad p l).idxOf (-1) = l.length := by
  unfold pad
  have : (-1 : Int) ∉ l := fun q => by have := h.bd _ q; omega
  rw [List.idxOf_append, if_neg this]
  have e : p - l.length = (p - l.length - 1) + 1 := by omega
  rw [e, List.replicate_succ, List.idxOf_cons_self]
  omega
theorem erase_pad {p : Nat} {l : List Int} (hl : l.length < p) : (pad p l).eraseIdx l.length = l ++ List.replicate (p - l.length - 1) (-1) := by
  unfold pad
  rw [List.eraseIdx_append_of_length_le (Nat.le_refl _), Nat.sub_self]
  have e : p - l.length = (p - l.length - 1) + 1 := by omega
  conv => lhs; rw [e, List.replicate_succ]
  rfl
theorem gt_pad {p : Nat} {l : List Int} {j : Nat} (h : j < l.length) : gt (pad p l) j = gt l j := by
  unfold gt pad
  rw [List.getD_eq_getElem?_getD, List.getD_eq_getElem?_getD, List.getElem?_append_left h]
theorem gt_set {row : List Int} {j : Nat} {t : Int} (h : j < row.length) : gt (row.set j t) j = t := by
  unfold gt
  rw [List.getD_eq_getElem?_getD, List.getElem?_set_self h]; rfl
theorem erase_set {row : List Int} {j : Nat} {t : Int} : (row.set j t).eraseIdx j = row.eraseIdx j := by
  induction row generalizing j with
  | nil => rfl
  | cons a r ih =>
    cases j with
    | zero => rfl
    | succ j => simp [ih]
theorem gt_mem {l : List Int} {j : Nat} (h : j < l.length) : gt l j ∈ l := by unfold gt; exact getD_mem h
theorem gt_idx {l : List Int} {t : Int} (h : t ∈ l) : gt l (l.idxOf t) = t := by
  unfold gt
  have hl := List.idxOf_lt_length_of_mem h
  rw [List.getD_eq_getElem?_getD, List.getElem?_eq_getElem hl]
  simp
theorem lstepOk {p d o : Nat} {hf : Bool} {l : List Int} (h1 : 1 ≤ p) (ho : o < p) (h : LOk p l) {t : Int} (h0 : 0 ≤ t) (h9 : t ≤ 99) : LOk p (lstep p d hf o l t).2.2 := by
  unfold lstep
  split
  · rename_i ht
    cases hf
    · exact h
    · have pm := List.perm_cons_erase ht
      exact ⟨by show (t :: l.erase t).length ≤ p; rw [← pm.length_eq]; exact h.len, pm.nodup_iff.mp h.nd, fun x hx => h.bd x (pm.mem_iff.mpr hx)⟩
  · rename_i ht
    split
    · rename_i hl
      have pm := insAt_perm (min d (p - 1)) t (l.eraseIdx o)
      have sub : (l.eraseIdx o).Sublist l := List.eraseIdx_sublist ..
      refine ⟨?_, ?_, fun x hx => ?_⟩
      · show (insAt _ t (l.eraseIdx o)).length ≤ p
        rw [insAt_len, List.length_eraseIdx_of_lt (by omega)]; omega
      · exact pm.nodup_iff.mpr (List.nodup_cons.mpr ⟨fun q => ht (sub.mem q), sub.nodup h.nd⟩)
      · rcases List.mem_cons.mp (pm.mem_iff.mp hx) with rfl | q
        · exact ⟨h0, h9⟩
        · exact h.bd x (sub.mem q)
    · rename_i hl
      have pm := insAt_perm (min d l.length) t l
      refine ⟨?_, pm.nodup_iff.mpr (List.nodup_cons.mpr ⟨ht, h.nd⟩), fun x hx => ?_⟩
      · show (insAt _ t l).length ≤ p
        rw [insAt_len]; have := h.len; omega
      · rcases List.mem_cons.mp (pm.mem_iff.mp hx) with rfl | q
        · exact ⟨h0, h9⟩
        · exact h.bd x q
theorem lRule_at (p d : Nat) (hf : Bool) (o : Nat) : (lRule p d hf o).at 0 = ⟨(List.range p).map fun j => ⟨lHit p hf j, 0⟩, o, (List.range p).map fun j => ⟨lCome p d j, 0⟩⟩ := rfl
theorem map_range_getD {α : Type} {d : α} {f : Nat → α} {p j : Nat} (h : j < p) : ((List.range p).map f).getD j d = f j := by
  rw [List.getD_eq_getElem?_getD, List.getElem?_map, List.getElem?_range h]; rfl
theorem erase_idx {t : Int} : ∀ (l : List Int), l.eraseIdx (l.idxOf t) = l.erase t
  | [] => rfl
  | a :: l => by
    rw [List.idxOf_cons, List.erase_cons]
    by_cases h : a = t
    · subst h; simp
    · have : (a == t) = false := beq_eq_false_iff_ne.mpr h
      simp [this, erase_idx l]
/-- the table does what the list does -/
theorem sim {p d o : Nat} {hf : Bool} (h1 : 1 ≤ p) (ho : o < p) (hod : min o d = min d (p - 1)) {l : List Int} (h : LOk p l) {t : Int} (h0 : 0 ≤ t) :
    stepT (lRule p d hf o) (pad p l) 0 t = ((lstep p d hf o l t).1, (lstep p d hf o l t).2.1, pad p (lstep p d hf o l t).2.2, 0) := by
  have plen := pad_len h.len
  unfold stepT lstep
  by_cases ht : t ∈ l
  · have ht' : t ∈ pad p l := (mem_pad h0).mpr ht
    rw [if_pos ht', if_pos ht, lRule_at]
    have hi : (pad p l).idxOf t = l.idxOf t := by unfold pad; rw [List.idxOf_append, if_pos ht]
    have hil := List.idxOf_lt_length_of_mem ht
    have hip : l.idxOf t < p := by have := h.len; omega
    rw [hi]
    unfold Lr.hit
    rw [map_range_getD hip]
    unfold lHit
    cases hf with
    | false =>
      simp only [Bool.false_eq_true, if_false]
      have a := arr_range (pad p l)
      rw [plen] at a
      rw [a]
    | true =>
      simp only [if_true]
      have a := arr_front (row := pad p l) (j := l.idxOf t)
      rw [plen] at a
      rw [a, gt_pad hil, gt_idx ht]
      have e : (pad p l).eraseIdx (l.idxOf t) = l.erase t ++ List.replicate (p - l.length) (-1) := by
        unfold pad
        rw [List.eraseIdx_append_of_lt_length hil, erase_idx]
      rw [e]
      unfold pad
      have le : (t :: l.erase t).length = l.length := (List.perm_cons_erase ht).length_eq.symm
      rw [le]; rfl
  · have ht' : t ∉ pad p l := fun q => ht ((mem_pad h0).mp q)
    rw [if_neg ht', if_neg ht, lRule_at]
    unfold placeT Lr.come
    by_cases hl : l.length = p
    · have nb : -1 ∉ pad p l := fun q => by have := (blank_pad h).mp q; omega
      rw [if_neg nb, if_pos hl]
      have ep : pad p l = l := by unfold pad; rw [hl, Nat.sub_self]; simp
      rw [ep, map_range_getD ho]
      have ng : ¬ gt l o = -1 := fun q => by have := h.bd _ (gt_mem (l := l) (j := o) (by omega)); omega
      rw [if_neg ng]
      unfold lCome
      have a := arr_come (row := l.set o t) (j := o) (n := min o d)
      rw [List.length_set, hl] at a
      rw [a, gt_set (by omega), erase_set]
      have pl : pad p (insAt (min d (p - 1)) t (l.eraseIdx o)) = insAt (min d (p - 1)) t (l.eraseIdx o) := by
        unfold pad
        rw [insAt_len, List.length_eraseIdx_of_lt (by omega)]
        have : p - (l.length - 1 + 1) = 0 := by omega
        rw [this]; simp
      rw [hod, pl]
    · have hlt : l.length < p := by have := h.len; omega
      have nb : -1 ∈ pad p l := (blank_pad h).mpr hlt
      rw [if_pos nb, if_neg hl, idx_blank h hlt, map_range_getD hlt]
      have g1 : gt (pad p l) l.length = -1 := by
        have := gt_idx nb
        rwa [idx_blank h hlt] at this
      rw [if_pos g1]
      unfold lCome
      have a := arr_come (row := (pad p l).set l.length t) (j := l.length) (n := min l.length d)
      rw [List.length_set, plen] at a
      rw [a, gt_set (by omega), erase_set, erase_pad hlt, insAt_append (Nat.min_le_left _ _), Nat.min_comm]
      have pl : pad p (insAt (min d l.length) t l) = insAt (min d l.length) t l ++ List.replicate (p - l.length - 1) (-1) := by
        unfold pad
        rw [insAt_len]
        have : p - (l.length + 1) = p - l.length - 1 := by omega
        rw [this]
      rw [pl]
theorem simRun {p d o : Nat} {hf : Bool} (h1 : 1 ≤ p) (ho : o < p) (hod : min o d = min d (p - 1)) : ∀ {ws l : List Int}, LOk p l → (∀ t ∈ ws, 0 ≤ t ∧ t ≤ 99) →
    runT (lRule p d hf o) (pad p l) 0 ws = ((pad p (lrun p d hf o l ws).1, 0), (lrun p d hf o l ws).2.1, (lrun p d hf o l ws).2.2) ∧ LOk p (lrun p d hf o l ws).1
  | [], l, h, _ => ⟨rfl, h⟩
  | t :: ts, l, h, hw => by
    have ht := hw t List.mem_cons_self
    have e := sim (d := d) (hf := hf) h1 ho hod h ht.1
    obtain ⟨e2, ok⟩ := simRun h1 ho hod (hf := hf) (ws := ts) (lstepOk (d := d) (hf := hf) h1 ho h ht.1 ht.2) fun x hx => hw x (List.mem_cons_of_mem _ hx)
    refine ⟨?_, ok⟩
    rw [runT, e, lrun]
    simp only
    rw [e2]
theorem things_pad {p : Nat} {l : List Int} (h : LOk p l) : thingsT (pad p l) = l.mergeSort fun a b => decide (a ≤ b) := by
  unfold thingsT pad
  congr 1
  rw [List.filter_append]
  have e1 : l.filter (fun x => !(x == -1)) = l := List.filter_eq_self.mpr fun x hx => by
    have := h.bd x hx
    have q : x ≠ -1 := by omega
    simp [q]
  have e2 : (List.replicate (p - l.length) (-1 : Int)).filter (fun x => !(x == -1)) = [] := List.filter_eq_nil_iff.mpr fun x hx => by
    rw [List.eq_of_mem_replicate hx]; decide
  rw [e1, e2, List.append_nil]
theorem pad_nil (p : Nat) : pad p [] = List.replicate p (-1) := by unfold pad; simp
end Gz
/-! Defs (printed by gz.py --gen), second part. -/
namespace Gz
open PySem L2
def ByListD_b0 : CSs := 
    (.cons (.par [8, 9] (.cons (.cst (.non)) (.cons (.inV false (.var 7) 4) .nil)))
    (.cons (.ifs (.and (.var 9) (.cmp .eq (.idxV 2 (.cst (.int 0))) (.cst (.str "front"))))
    (.cons (.exp (.rmv 4 (.var 7)))
    (.cons (.exp (.ins 4 (.cst (.int 0)) (.var 7)))
    .nil))
    (.cons (.ifs (.not (.var 9))
    (.cons (.ifs (.cmp .eq (.bltV .len 4) (.var 0))
    (.cons (.asg 8 (.popAt 4 (.ite (.cmp .eq (.var 3) (.cst (.str "front"))) (.cst (.int 0)) (.bin .sub (.var 0) (.cst (.int 1))))))
    .nil)
    .nil)
    (.cons (.exp (.ins 4 (.blt .min2 (.cons (.idxV 2 (.cst (.int 1))) (.cons (.bltV .len 4) .nil))) (.var 7)))
    .nil))
    .nil)
    .nil))
    (.cons (.exp (.app 5 (.var 9)))
    (.cons (.exp (.app 6 (.var 8)))
    .nil))))
def ByListD_f0 : CS := .for_ [7] (.seq (.var 1)) ByListD_b0
/-- _law_by_list(_law_places, _law_wishes_here, _law_first, _law_last), slots 0=_law_places 1=_law_wishes_here 2=_law_first 3=_law_last 4=_law_found 5=_law_was_hit 6=_law_lost 7=_law_thing 8=_law_away 9=_law_is_hit; calls  -/
def ByListD : Def := ⟨4, 10,
    (.cons (.par [4, 5, 6] (.cons (.lst .nil) (.cons (.lst .nil) (.cons (.lst .nil) .nil))))
    (.cons ByListD_f0
    (.cons (.ret (.lst (.cons (.blt .tuple (.cons (.bltV .sorted 4) .nil)) (.cons (.bltV .tuple 5) (.cons (.bltV .tuple 6) .nil)))))
    .nil)))⟩
/-- _law_told(_law_rule, _law_wishes_here), slots 0=_law_rule 1=_law_wishes_here; calls c_gone c_hits c_kept -/
def ToldD (c_gone c_hits c_kept : Nat) : Def := ⟨2, 2,
    (.cons (.ret (.lst (.cons (.call c_kept (.cons (.var 0) (.cons (.var 1) .nil))) (.cons (.call c_hits (.cons (.var 0) (.cons (.var 1) .nil))) (.cons (.call c_gone (.cons (.var 0) (.cons (.var 1) .nil))) .nil)))))
    .nil)⟩
end Gz
/-! The laws' list of things, run. -/
namespace Gz
open PySem L2
theorem iV_erase (l : List Int) (j : Nat) : (iV l).eraseIdx j = iV (l.eraseIdx j) := (map_eraseIdx _ l j).symm
theorem iV_ins (l : List Int) (n : Nat) (t : Int) : (iV l).take n ++ Val.int t :: (iV l).drop n = iV (insAt n t l) := (insAt_map _ n t l).symm
def firstS (hf : Bool) : Str := if hf then "front" else "same"
def lastS (b : Bool) : Str := if b then "front" else "back"
/-- the place from which things go -/
def outOf (p : Nat) (b : Bool) : Nat := if b then 0 else p - 1
section
variable {T : List Def} {k n : Nat} {s : Sto}
theorem byTurn {F : FT} {q x7 x8 x9 : Option Slot} {p d : Nat} {hf b : Bool} (h1 : 1 ≤ p) (h4 : p ≤ 4) (hd : d ≤ 4) {l : List Int} (h : LOk p l) {t : Int} {fs ls : List Val} (f1 : fs.length < sizeLine) (f2 : ls.length < sizeLine) :
    turnB F [7] ByListD_b0 (.int t) [some (.val (.int p)), q, some (.val (.tup [.str (firstS hf), .int d])), some (.val (.str (lastS b))), some (.own (iV l)), some (.own fs), some (.own ls), x7, x8, x9] s =
      .ok .next [some (.val (.int p)), q, some (.val (.tup [.str (firstS hf), .int d])), some (.val (.str (lastS b))), some (.own (iV (lstep p d hf (outOf p b) l t).2.2)), some (.own (fs ++ [.bl (lstep p d hf (outOf p b) l t).1])), some (.own (ls ++ [optV (lstep p d hf (outOf p b) l t).2.1])), some (.val (.int t)), some (.val (optV (lstep p d hf (outOf p b) l t).2.1)), some (.val (.bl (lstep p d hf (outOf p b) l t).1))] s := by
  have hl := h.len
  have e1 := isin_intsL t l
  have zl : l.length < sizeLine := small_line (by omega)
  by_cases ht : t ∈ l
  · have e2 := elEqs_ints t l
    have e3 := find_ints ht
    cases hf with
    | true =>
      have fr : (Str.ofString "front" == Str.ofString "front") = true := by decide
      have zl2 : (l.erase t).length < sizeLine := small_line (by have := List.length_erase_le (a := t) (l := l); omega)
      have zl3 : ((iV l).eraseIdx (l.idxOf t)).length < sizeLine := by rw [iV_erase, iV_len, erase_idx]; exact zl2
      have zl4 : l.length - 1 < sizeLine := small_line (by omega)
      have ic : iV (t :: l.erase t) = .int t :: iV (l.erase t) := rfl
      simp -implicitDefEqProofs [turnB, ByListD_b0, e1, ht, firstS, e2, e3, iV_erase, erase_idx, zl2, zl4, f1, f2, lstep, optV, ic]
    | false =>
      have fr : (Str.ofString "same" == Str.ofString "front") = false := by decide
      simp -implicitDefEqProofs [turnB, ByListD_b0, e1, ht, firstS, fr, f1, f2, lstep, optV]
  · by_cases hp : l.length = p
    · have hpI : ((l.length : Nat) : Int) = p := by omega
      have ho : outOf p b < l.length := by unfold outOf; split <;> omega
      have g1 : (iV l)[outOf p b]? = some (.int (gt l (outOf p b))) := by
        unfold iV gt
        rw [List.getElem?_map, List.getElem?_eq_getElem ho, List.getD_eq_getElem?_getD, List.getElem?_eq_getElem ho]; rfl
      have le : (l.eraseIdx (outOf p b)).length = p - 1 := by rw [List.length_eraseIdx_of_lt ho]; omega
      have zl2 : (l.eraseIdx (outOf p b)).length < sizeLine := small_line (by omega)
      have hmin : ∀ m : List Int, m.length = p - 1 → min (if m.length < d then (m.length : Int) else (d : Int)).toNat m.length = min d (p - 1) := fun m e => by
        rw [e]; split <;> omega
      have hn : ∀ m : List Int, m.length = p - 1 → 0 ≤ (if m.length < d then (m.length : Int) else (d : Int)) ∧ (if m.length < d then (m.length : Int) else (d : Int)) < 4611686018427387904 := fun m e => by
        rw [e]; split <;> omega
      cases b with
      | true =>
        have oe : outOf p true = 0 := rfl
        rw [oe] at g1 le zl2 ho
        match l, hp, ho with
        | a :: m, hp, ho =>
          have ic : iV (a :: m) = .int a :: iV m := rfl
          have ic2 : (a :: m).eraseIdx 0 = m := rfl
          have ic3 : gt (a :: m) 0 = a := rfl
          rw [ic2] at le zl2
          have hn := hn m le
          have hmin := hmin m le
          have ht' : ¬ (t = a ∨ t ∈ m) := by simpa using ht
          have hpI' : ((m.length : Nat) : Int) + 1 = p := by simpa using hpI
          have hp' : m.length + 1 = p := by simpa using hp
          rw [ic] at e1
          have g0 : (Val.int a :: iV m)[0]? = some (.int a) := rfl
          simp -implicitDefEqProofs [turnB, ByListD_b0, ic, g0, e1, ht', hpI', lastS, zl2, hn, hmin, iV_ins, f1, f2, lstep, hp', optV, oe, ic3]
      | false =>
        have oe : outOf p false = p - 1 := rfl
        rw [oe] at g1 le zl2 ho
        have fr : (Str.ofString "back" == Str.ofString "front") = false := by decide
        have k1 : (0 : Int) ≤ (p : Int) - 1 := by omega
        have k2 : (p : Int) - 1 < 9223372036854775808 := by omega
        have k3 : ((p : Int) - 1).toNat = p - 1 := by omega
        have k4 : (1 : Int) ≤ (p : Int) := by omega
        have ie := iV_erase l (p - 1)
        have lstepE : lstep p d hf (p - 1) l t = (false, some (gt l (p - 1)), insAt (min d (p - 1)) t (l.eraseIdx (p - 1))) := by
          unfold lstep
          rw [if_neg ht, if_pos hp]
        have hn := hn _ le
        have hmin := hmin _ le
        rw [oe, lstepE]
        generalize l.eraseIdx (p - 1) = m at *
        simp -implicitDefEqProofs [turnB, ByListD_b0, e1, ht, hpI, lastS, fr, k1, k2, k3, k4, g1, ie, zl2, hn, hmin, iV_ins, f1, f2, optV]
    · have hpI : ¬ ((l.length : Nat) : Int) = p := by omega
      have hmin : min (if l.length < d then (l.length : Int) else (d : Int)).toNat l.length = min d l.length := by split <;> omega
      have hn : 0 ≤ (if l.length < d then (l.length : Int) else (d : Int)) ∧ (if l.length < d then (l.length : Int) else (d : Int)) < 4611686018427387904 := by split <;> omega
      simp -implicitDefEqProofs [turnB, ByListD_b0, e1, ht, hpI, hp, zl, hn, hmin, iV_ins, f1, f2, lstep, optV]
theorem byLoop {F : FT} {q : Option Slot} {p d : Nat} {hf b : Bool} (h1 : 1 ≤ p) (h4 : p ≤ 4) (hd : d ≤ 4) : ∀ (ws : List Int) (l : List Int) (fs ls : List Val) (x7 x8 x9 : Option Slot), LOk p l → (∀ t ∈ ws, 0 ≤ t ∧ t ≤ 99) → fs.length + ws.length ≤ 1000 → ls.length + ws.length ≤ 1000 →
    ∃ y7 y8 y9, forLoop (turnB F [7] ByListD_b0) (iV ws) [some (.val (.int p)), q, some (.val (.tup [.str (firstS hf), .int d])), some (.val (.str (lastS b))), some (.own (iV l)), some (.own fs), some (.own ls), x7, x8, x9] s =
      .ok .next [some (.val (.int p)), q, some (.val (.tup [.str (firstS hf), .int d])), some (.val (.str (lastS b))), some (.own (iV (lrun p d hf (outOf p b) l ws).1)), some (.own (fs ++ (lrun p d hf (outOf p b) l ws).2.1.map .bl)), some (.own (ls ++ (lrun p d hf (outOf p b) l ws).2.2.map optV)), y7, y8, y9] s
  | [], l, fs, ls, x7, x8, x9, _, _, _, _ => ⟨x7, x8, x9, by simp -implicitDefEqProofs [iV, lrun]⟩
  | t :: ts, l, fs, ls, x7, x8, x9, h, hw, g1, g2 => by
    have ht := hw t List.mem_cons_self
    simp only [List.length_cons] at g1 g2
    have ho : outOf p b < p := by unfold outOf; split <;> omega
    obtain ⟨y7, y8, y9, e⟩ := byLoop (hf := hf) (b := b) h1 h4 hd ts (lstep p d hf (outOf p b) l t).2.2 (fs ++ [.bl (lstep p d hf (outOf p b) l t).1]) (ls ++ [optV (lstep p d hf (outOf p b) l t).2.1]) (some (.val (.int t))) (some (.val (optV (lstep p d hf (outOf p b) l t).2.1))) (some (.val (.bl (lstep p d hf (outOf p b) l t).1))) (lstepOk h1 ho h ht.1 ht.2) (fun x hx => hw x (List.mem_cons_of_mem _ hx)) (by simp; omega) (by simp; omega)
    refine ⟨y7, y8, y9, ?_⟩
    have tb := byTurn (F := F) (s := s) (q := q) (x7 := x7) (x8 := x8) (x9 := x9) (hf := hf) (b := b) h1 h4 hd h (t := t) (fs := fs) (ls := ls) (small_line (by omega)) (small_line (by omega))
    show forLoop _ (.int t :: iV ts) _ s = _
    rw [forLoop, tb, bind_ok]
    dsimp only
    rw [e]
    simp [lrun]
def byV (p d : Nat) (hf : Bool) (o : Nat) (ws : List Int) : List Val := [.tup (iV ((lrun p d hf o [] ws).1.mergeSort fun a b => decide (a ≤ b))), .tup ((lrun p d hf o [] ws).2.1.map .bl), .tup ((lrun p d hf o [] ws).2.2.map optV)]
theorem byList (hB : T[n]? = some ByListD) {p d : Nat} {hf b : Bool} (h1 : 1 ≤ p) (h4 : p ≤ 4) (hd : d ≤ 4) {ws : List Int} (hw : reqOk ws) : callN T (k + 1) n [.int p, .tup (iV ws), .tup [.str (firstS hf), .int d], .str (lastS b)] s = .ok (.fr (byV p d hf (outOf p b) ws)) s := by
  rw [callN_eq hB]
  have h60 := hw.1
  obtain ⟨y7, y8, y9, e⟩ := byLoop (F := callN T k) (s := s) (q := some (.val (.tup (iV ws)))) (hf := hf) (b := b) h1 h4 hd ws [] [] [] none none none ⟨by simp, List.nodup_nil, by simp⟩ hw.2 (by simp; omega) (by simp; omega)
  have e2 := (for_tup (i := 1) rfl).trans e
  change exS _ ByListD_f0 _ s = _ at e2
  have i0 : iV [] = [] := rfl
  rw [i0] at e2
  simp -implicitDefEqProofs [runD, ByListD, e2, sortInts, le_line, byV]
/-- the table tells what the list tells -/
theorem told_eq {p d o : Nat} {hf : Bool} (h1 : 1 ≤ p) (ho : o < p) (hod : min o d = min d (p - 1)) {ws : List Int} (hw : reqOk ws) :
    [Val.tup (iV (thingsT (runT (lRule p d hf o) (firstT (lRule p d hf o)) 0 ws).1.1)), .tup ((runT (lRule p d hf o) (firstT (lRule p d hf o)) 0 ws).2.1.map .bl), .tup ((runT (lRule p d hf o) (firstT (lRule p d hf o)) 0 ws).2.2.map optV)] = byV p d hf o ws := by
  have ok : LOk p ([] : List Int) := ⟨by simp, List.nodup_nil, by simp⟩
  obtain ⟨e, ok2⟩ := simRun (d := d) (hf := hf) h1 ho hod ok hw.2
  rw [pad_nil] at e
  have f : firstT (lRule p d hf o) = List.replicate p (-1) := rfl
  rw [f, e]
  simp only [things_pad ok2]
  rfl
theorem by_fit {p d o : Nat} {hf : Bool} (h1 : 1 ≤ p) (h4 : p ≤ 4) (ho : o < p) (hod : min o d = min d (p - 1)) {ws : List Int} (hw : reqOk ws) : Fit (.lst (byV p d hf o ws)) 3 1000000 := by
  have hr := lRule_ok (d := d) (hf := hf) h1 h4 ho
  have ok := runOk hr (firstOk hr) hw.2
  obtain ⟨l1, l2⟩ := run_len (lRule p d hf o) ws (firstT (lRule p d hf o)) 0
  have h60 := hw.1
  have len := ok.len
  have p4 := hr.p4
  rw [← told_eq h1 ho hod hw]
  refine (Fit.lst (d := 2) (w := 150000) fun x hx => ?_).le (by omega) (by simp)
  simp only [List.mem_cons, List.not_mem_nil, or_false] at hx
  rcases hx with rfl | rfl | rfl
  · have := things_len (runT (lRule p d hf o) (firstT (lRule p d hf o)) 0 ws).1.1
    exact (Fit.ints fun n hn => by have := ok.bd n (things_mem.mp hn).1; omega).le (by omega) (by omega)
  · exact Fit.bools.le (by omega) (by omega)
  · exact (Fit.opts (run_gone hr (firstOk hr) hw.2)).le (by omega) (by omega)
end
end Gz
/-! The outer loop, by any name. -/
namespace Gz
open PySem L2
def OuterG (c : Nat) (C : Int) (b : CSs) : CS := .for_ [c] (.rng .no (.blt .max2 (.cons (.cst (.int 1)) (.cons (.blt .min2 (.cons (.bltV .len 0) (.cons (.cst (.int C)) .nil))) .nil)))) b
theorem outerG {F : FT} {c : Nat} {C : Int} {ns : List Int} (h1 : 1 ≤ C) (h2 : C ≤ 1000) {b : CSs} {m : Nat}
    (turn : ∀ (j : Nat) (xs : List (Option Slot)) (s : Sto), xs.length = m → ∃ ys s', turnB F [c] b (.int j) (some (.val (.fz ns)) :: xs) s = .ok .next (some (.val (.fz ns)) :: ys) s' ∧ ys.length = m) (s : Sto) {xs : List (Option Slot)} (hx : xs.length = m) :
    ∃ r' s', exS F (OuterG c C b) (some (.val (.fz ns)) :: xs) s = .ok .next r' s' ∧ ∃ ys, r' = some (.val (.fz ns)) :: ys ∧ ys.length = m := by
  unfold OuterG
  rw [ex_for]
  obtain ⟨q, e, q1, q2⟩ : ∃ q : Int, evI F (.rng .no (.blt .max2 (.cons (.cst (.int 1)) (.cons (.blt .min2 (.cons (.bltV .len 0) (.cons (.cst (.int C)) .nil))) .nil)))) (some (.val (.fz ns)) :: xs) s = .ok ((rngI 0 q).map .int) (some (.val (.fz ns)) :: xs) s ∧ 0 ≤ q ∧ q ≤ 1000 := by
    refine ⟨if (if C < (ns.length : Int) then C else (ns.length : Int)) > 1 then (if C < (ns.length : Int) then C else (ns.length : Int)) else 1, ?_, by split <;> split <;> omega, by split <;> split <;> omega⟩
    have := rng_small (n := if (if C < (ns.length : Int) then C else (ns.length : Int)) > 1 then (if C < (ns.length : Int) then C else (ns.length : Int)) else 1) (by split <;> split <;> omega) (by split <;> split <;> omega)
    simp -implicitDefEqProofs only [evI, evO, bind_ok, evE, evA, peek, deref, List.getElem?_cons_zero, Option.bind_some, l_fz, lift_some, frz, v_val, b_min2, b_max2, Option.getD_none, this, if_true]
  rw [e, bind_ok]
  obtain ⟨r', s', e2, hI⟩ := for_ok (f := turnB F [c] b) (fun j r s => ∃ ys, r = some (.val (.fz ns)) :: ys ∧ ys.length = m) (xs := (rngI 0 q).map Val.int) (s := s) ⟨xs, rfl, hx⟩ (fun j x r s1 hx hI => by
    obtain ⟨ys, rfl, hy⟩ := hI
    have := rng_get hx
    subst this
    have z : (0 : Int) + (j : Nat) = (j : Nat) := by omega
    rw [z]
    obtain ⟨zs, s', e, hz⟩ := turn j ys s1 hy
    exact ⟨_, s', e, zs, rfl, hz⟩)
  exact ⟨r', s', e2, hI⟩
theorem told {T : List Def} {k n nk nh ng nt nb : Nat} {s : Sto} {nw no nm nms nr nu nn nth nrq nnq na nsp nf nrn nck : Nat} (R : RunsT T nw no nm nms nr nu nn nth nrq nnq na nsp nf nrn nck) (hB : T[nb]? = some (BehindD nck)) (hT : T[nt]? = some ThingsD) (hK : T[nk]? = some (KeptD nt nb)) (hH : T[nh]? = some (HitsD nck)) (hG : T[ng]? = some (GoneD nck)) (hTo : T[n]? = some (ToldD ng nh nk))
    {r : Ru} (hr : r.ok) {ws : List Int} (hw : reqOk ws) : callN T (k + 11) n [r.v, .tup (iV ws)] s = .ok (.fr [.tup (iV (thingsT (runT r (firstT r) 0 ws).1.1)), .tup ((runT r (firstT r) 0 ws).2.1.map .bl), .tup ((runT r (firstT r) 0 ws).2.2.map optV)]) s := by
  rw [callN_eq hTo]
  have e1 := R.kept (k := k) (s := s) hB hT hK hr hw
  have e2 := R.hits (k := k + 1) (s := s) hH hr hw
  have e3 := R.gone (k := k + 1) (s := s) hG hr hw
  simp -implicitDefEqProofs [runD, ToldD, e1, e2, e3, le_line]
end Gz
/-! Generic defs of pairs (printed by gz.py --gen). -/
namespace Gz
open PySem L2
/-- need_rules(one, other), slots 0=one 1=other; calls c_need_rule -/
def NeedRulesD (c_need_rule : Nat) : Def := ⟨2, 2,
    (.cons (.exp (.call c_need_rule (.cons (.var 0) .nil)))
    (.cons (.exp (.call c_need_rule (.cons (.var 1) .nil)))
    .nil))⟩
def NamedD_l0 : CE := .lc (.seq (.var 4)) [3] .no (.idxV 2 (.var 3))
def NamedD_l1 : CE := .lc (.seq (.tup (.cons (.var 0) (.cons (.var 1) .nil)))) [4, 5] .no (.tup (.cons (.blt .tuple (.cons NamedD_l0 .nil)) (.cons (.var 5) .nil)))
def NamedD_b2 : CSs := 
    (.cons (.ifs (.inV true (.var 3) 2)
    (.cons (.setD 2 (.var 3) (.bin .sub (.bltV .len 2) (.cst (.int 1))))
    .nil)
    .nil)
    .nil)
def NamedD_f2 : CS := .for_ [3] (.seq (.bin .add (.idxV 0 (.cst (.int 0))) (.idxV 1 (.cst (.int 0))))) NamedD_b2
/-- named(mine, its), slots 0=mine 1=its 2=numbers 3=thing 4=row 5=label; calls  -/
def NamedD : Def := ⟨2, 6,
    (.cons (.asg 2 (.dctE (.cst (.int (-1))) (.cst (.int (-1)))))
    (.cons NamedD_f2
    (.cons (.ret (.blt .tuple (.cons NamedD_l1 .nil)))
    .nil)))⟩
/-- is_pair(one, other, thing), slots 0=one 1=other 2=thing; calls c_named c_is_state_of -/
def IsPairD (c_named c_is_state_of : Nat) : Def := ⟨3, 3,
    (.cons (.ifs (.or (.not (.isiV 2 "tuple")) (.cmp .ne (.bltV .len 2) (.cst (.int 2))))
    (.cons (.ret (.cst (.bl false)))
    .nil)
    .nil)
    (.cons (.ifs (.or (.not (.call c_is_state_of (.cons (.var 0) (.cons (.idxV 2 (.cst (.int 0))) .nil)))) (.not (.call c_is_state_of (.cons (.var 1) (.cons (.idxV 2 (.cst (.int 1))) .nil)))))
    (.cons (.ret (.cst (.bl false)))
    .nil)
    .nil)
    (.cons (.ret (.cmp .eq (.call c_named (.cons (.idxV 2 (.cst (.int 0))) (.cons (.idxV 2 (.cst (.int 1))) .nil))) (.var 2)))
    .nil)))⟩
/-- how_many(arrangement), slots 0=arrangement; calls  -/
def HowManyD : Def := ⟨1, 1,
    (.cons (.ret (.bin .add (.blt .max1 (.cons (.bin .add (.idx (.idxV 0 (.cst (.int 0))) (.cst (.int 0))) (.idx (.idxV 0 (.cst (.int 1))) (.cst (.int 0)))) .nil)) (.cst (.int 1))))
    .nil)⟩
/-- moved_by(one, other, arrangement, number), slots 0=one 1=other 2=arrangement 3=number 4=mine 5=its; calls c_named c_step -/
def MovedByD (c_named c_step : Nat) : Def := ⟨4, 6,
    (.cons (.par [4, 5] (.cons (.call c_step (.cons (.var 0) (.cons (.idxV 2 (.cst (.int 0))) (.cons (.var 3) .nil)))) (.cons (.call c_step (.cons (.var 1) (.cons (.idxV 2 (.cst (.int 1))) (.cons (.var 3) .nil)))) .nil)))
    (.cons (.ret (.tup (.cons (.idxV 4 (.cst (.int 0))) (.cons (.idxV 5 (.cst (.int 0))) (.cons (.call c_named (.cons (.idxV 4 (.cst (.int 2))) (.cons (.idxV 5 (.cst (.int 2))) .nil))) .nil)))))
    .nil))⟩
/-- moved(one, other, arrangement, number), slots 0=one 1=other 2=arrangement 3=number; calls c_moved_by c_is_whole c_how_many c_is_pair c_need_rules x_NoNumber x_NoArrangement -/
def MovedD (c_moved_by c_is_whole c_how_many c_is_pair c_need_rules : Nat) (x_NoNumber x_NoArrangement : CS) : Def := ⟨4, 4,
    (.cons (.exp (.call c_need_rules (.cons (.var 0) (.cons (.var 1) .nil))))
    (.cons (.ifs (.not (.call c_is_pair (.cons (.var 0) (.cons (.var 1) (.cons (.var 2) .nil)))))
    (.cons x_NoArrangement
    .nil)
    .nil)
    (.cons (.ifs (.not (.call c_is_whole (.cons (.var 3) (.cons (.cst (.int 0)) (.cons (.call c_how_many (.cons (.var 2) .nil)) .nil)))))
    (.cons x_NoNumber
    .nil)
    .nil)
    (.cons (.ret (.call c_moved_by (.cons (.var 0) (.cons (.var 1) (.cons (.var 2) (.cons (.var 3) .nil))))))
    .nil))))⟩
def LNamedD_l0 : CE := .lc (.seq (.var 3)) [2] .no (.bin .sub (.mthV .index 1 (.cons (.var 2) .nil)) (.cst (.int 1)))
def LNamedD_l1 : CE := .lc (.seq (.var 0)) [3, 4] .no (.tup (.cons (.blt .tuple (.cons LNamedD_l0 .nil)) (.cons (.var 4) .nil)))
def LNamedD_b2 : CSs := 
    (.cons (.ifs (.inV true (.var 2) 1)
    (.cons (.exp (.app 1 (.var 2)))
    .nil)
    .nil)
    .nil)
def LNamedD_f2 : CS := .for_ [2] (.seq (.bin .add (.idx (.idxV 0 (.cst (.int 0))) (.cst (.int 0))) (.idx (.idxV 0 (.cst (.int 1))) (.cst (.int 0))))) LNamedD_b2
/-- _law_named(_law_pair), slots 0=_law_pair 1=_law_known 2=_law_thing 3=_law_row 4=_law_label; calls  -/
def LNamedD : Def := ⟨1, 5,
    (.cons (.asg 1 (.lst (.cons (.neg (.cst (.int 1))) .nil)))
    (.cons LNamedD_f2
    (.cons (.ret (.blt .tuple (.cons LNamedD_l1 .nil)))
    .nil)))⟩
/-- _law_moved(_law_one, _law_other, _law_pair, _law_number), slots 0=_law_one 1=_law_other 2=_law_pair 3=_law_number 4=_law_mine 5=_law_its; calls c_law_named c_law_asked -/
def LMovedD (c_law_named c_law_asked : Nat) : Def := ⟨4, 6,
    (.cons (.par [4, 5] (.cons (.call c_law_asked (.cons (.var 0) (.cons (.idxV 2 (.cst (.int 0))) (.cons (.var 3) .nil)))) (.cons (.call c_law_asked (.cons (.var 1) (.cons (.idxV 2 (.cst (.int 1))) (.cons (.var 3) .nil)))) .nil)))
    (.cons (.ret (.tup (.cons (.idxV 4 (.cst (.int 0))) (.cons (.idxV 5 (.cst (.int 0))) (.cons (.call c_law_named (.cons (.tup (.cons (.idxV 4 (.cst (.int 2))) (.cons (.idxV 5 (.cst (.int 2))) .nil))) .nil)) .nil)))))
    .nil))⟩
/-- _law_two(_law_pen_here, _law_most), slots 0=_law_pen_here 1=_law_most; calls c_law_rule -/
def LTwoD (c_law_rule : Nat) : Def := ⟨2, 2,
    (.cons (.ret (.tup (.cons (.call c_law_rule (.cons (.var 0) (.cons (.var 1) (.cons (.cst (.int 2)) .nil)))) (.cons (.call c_law_rule (.cons (.var 0) (.cons (.var 1) (.cons (.cst (.int 2)) .nil)))) .nil))))
    .nil)⟩
/-- _law_met(_law_one, _law_other), slots 0=_law_one 1=_law_other; calls c_law_first -/
def LMetD (c_law_first : Nat) : Def := ⟨2, 2,
    (.cons (.ret (.tup (.cons (.call c_law_first (.cons (.var 0) .nil)) (.cons (.call c_law_first (.cons (.var 1) .nil)) .nil))))
    .nil)⟩
def LAnyPairD_l0 (c_law_named c_law_draw c_law_mixed : Nat) : CE := .lc (.seq (.var 5)) [7] .no (.ite (.cmp .gt (.call c_law_draw (.cons (.var 0) (.cons (.cst (.int 4)) .nil))) (.cst (.int 0))) (.var 7) (.neg (.cst (.int 1))))
def LAnyPairD_b1 (c_law_named c_law_draw c_law_mixed : Nat) : CSs := 
    (.cons (.asg 5 (.slc (.call c_law_mixed (.cons (.var 0) (.cons (.lst (.cons (.cst (.int 0)) (.cons (.cst (.int 1)) (.cons (.cst (.int 2)) (.cons (.cst (.int 3)) (.cons (.cst (.int 4)) (.cons (.cst (.int 5)) (.cons (.cst (.int 6)) (.cons (.cst (.int 7)) .nil))))))))) .nil))) .no (.so (.idxV 4 (.cst (.int 0))))))
    (.cons (.asg 6 (.blt .tuple (.cons (LAnyPairD_l0 c_law_named c_law_draw c_law_mixed) .nil)))
    (.cons (.exp (.app 3 (.tup (.cons (.var 6) (.cons (.call c_law_draw (.cons (.var 0) (.cons (.blt .len (.cons (.idxV 4 (.cst (.int 1))) .nil)) .nil))) .nil)))))
    .nil)))
def LAnyPairD_f1 (c_law_named c_law_draw c_law_mixed : Nat) : CS := .for_ [4] (.seq (.tup (.cons (.var 1) (.cons (.var 2) .nil)))) (LAnyPairD_b1 c_law_named c_law_draw c_law_mixed)
/-- _law_any_pair(_law_pen_here, _law_one, _law_other), slots 0=_law_pen_here 1=_law_one 2=_law_other 3=_law_states 4=_law_rule_here 5=_law_names 6=_law_row 7=_law_name; calls c_law_named c_law_draw c_law_mixed -/
def LAnyPairD (c_law_named c_law_draw c_law_mixed : Nat) : Def := ⟨3, 8,
    (.cons (.asg 3 (.lst .nil))
    (.cons (LAnyPairD_f1 c_law_named c_law_draw c_law_mixed)
    (.cons (.ret (.call c_law_named (.cons (.tup (.cons (.idxV 3 (.cst (.int 0))) (.cons (.idxV 3 (.cst (.int 1))) .nil))) .nil)))
    .nil)))⟩
def LTrailD_b0 (c_law_moved c_law_whole c_law_many : Nat) : CSs := 
    (.cons (.ifs (.not (.call c_law_whole (.cons (.var 5) (.cons (.cst (.int 0)) (.cons (.call c_law_many (.cons (.var 2) .nil)) .nil)))))
    (.cons (.ret (.cst (.non)))
    .nil)
    .nil)
    (.cons (.exp (.app 4 (.call c_law_moved (.cons (.var 0) (.cons (.var 1) (.cons (.var 2) (.cons (.var 5) .nil)))))))
    (.cons (.asg 2 (.idx (.idxV 4 (.neg (.cst (.int 1)))) (.cst (.int 2))))
    .nil)))
def LTrailD_f0 (c_law_moved c_law_whole c_law_many : Nat) : CS := .for_ [5] (.seq (.var 3)) (LTrailD_b0 c_law_moved c_law_whole c_law_many)
/-- _law_trail(_law_one, _law_other, _law_here, _law_numbers), slots 0=_law_one 1=_law_other 2=_law_here 3=_law_numbers 4=_law_found 5=_law_number; calls c_law_moved c_law_whole c_law_many -/
def LTrailD (c_law_moved c_law_whole c_law_many : Nat) : Def := ⟨4, 6,
    (.cons (.ifs (.not (.isiV 3 "tuple"))
    (.cons (.ret (.cst (.non)))
    .nil)
    .nil)
    (.cons (.asg 4 (.lst .nil))
    (.cons (LTrailD_f0 c_law_moved c_law_whole c_law_many)
    (.cons (.retV 4)
    .nil))))⟩
/-- _law_led(_law_one, _law_other, _law_numbers), slots 0=_law_one 1=_law_other 2=_law_numbers 3=_law_trail_here; calls c_law_met c_law_trail -/
def LLedD (c_law_met c_law_trail : Nat) : Def := ⟨3, 4,
    (.cons (.asg 3 (.call c_law_trail (.cons (.var 0) (.cons (.var 1) (.cons (.call c_law_met (.cons (.var 0) (.cons (.var 1) .nil))) (.cons (.var 2) .nil))))))
    (.cons (.ifs (.cmp .is (.var 3) (.cst (.non)))
    (.cons (.ret (.cst (.non)))
    .nil)
    .nil)
    (.cons (.ret (.ite (.cmp .ne (.var 3) (.lst .nil)) (.idx (.idxV 3 (.neg (.cst (.int 1)))) (.cst (.int 2))) (.call c_law_met (.cons (.var 0) (.cons (.var 1) .nil)))))
    .nil)))⟩
def LWalkD_b0 (c_law_draw c_law_moved c_law_many c_law_met : Nat) : CSs := 
    (.cons (.asg 7 (.call c_law_draw (.cons (.var 0) (.cons (.bin .add (.call c_law_many (.cons (.var 4) .nil)) (.cst (.int 1))) .nil))))
    (.cons (.par [4, 5] (.cons (.idx (.call c_law_moved (.cons (.var 1) (.cons (.var 2) (.cons (.var 4) (.cons (.var 7) .nil))))) (.cst (.int 2))) (.cons (.bin .add (.var 5) (.tup (.cons (.var 7) .nil))) .nil)))
    .nil))
def LWalkD_f0 (c_law_draw c_law_moved c_law_many c_law_met : Nat) : CS := .for_ [6] (.rng .no (.call c_law_draw (.cons (.var 0) (.cons (.bin .add (.var 3) (.cst (.int 1))) .nil)))) (LWalkD_b0 c_law_draw c_law_moved c_law_many c_law_met)
/-- _law_walk(_law_pen_here, _law_one, _law_other, _law_most), slots 0=_law_pen_here 1=_law_one 2=_law_other 3=_law_most 4=_law_here 5=_law_found 6=_law_turn 7=_law_number; calls c_law_draw c_law_moved c_law_many c_law_met -/
def LWalkD (c_law_draw c_law_moved c_law_many c_law_met : Nat) : Def := ⟨4, 8,
    (.cons (.par [4, 5] (.cons (.call c_law_met (.cons (.var 1) (.cons (.var 2) .nil))) (.cons (.tup .nil) .nil)))
    (.cons (LWalkD_f0 c_law_draw c_law_moved c_law_many c_law_met)
    (.cons (.retV 5)
    .nil)))⟩
end Gz
/-! Things numbered as they come. -/
namespace Gz
open PySem L2
def grow (ks : List Int) : List Int → List Int
  | [] => ks
  | t :: ts => grow (if t ∈ ks then ks else ks ++ [t]) ts
def num (ks : List Int) (t : Int) : Int := (ks.idxOf t : Nat) - 1
theorem grow_sub {ks ts : List Int} : ∀ t, t ∈ grow ks ts ↔ t ∈ ks ∨ t ∈ ts := by
  induction ts generalizing ks with
  | nil => intro t; simp [grow]
  | cons a ts ih =>
    intro t
    rw [grow, ih]
    split
    · rename_i h
      constructor
      · rintro (h1 | h1)
        · exact .inl h1
        · exact .inr (.tail _ h1)
      · rintro (h1 | h1)
        · exact .inl h1
        · rcases List.mem_cons.mp h1 with rfl | h1
          · exact .inl h
          · exact .inr h1
    · simp only [List.mem_append, List.mem_cons, List.not_mem_nil, or_false]
      constructor
      · rintro ((h1 | h1) | h1)
        · exact .inl h1
        · exact .inr (.inl h1)
        · exact .inr (.inr h1)
      · rintro (h1 | h1 | h1)
        · exact .inl (.inl h1)
        · exact .inl (.inr h1)
        · exact .inr h1
theorem grow_nodup {ks ts : List Int} (h : ks.Nodup) : (grow ks ts).Nodup := by
  induction ts generalizing ks with
  | nil => exact h
  | cons a ts ih =>
    rw [grow]
    split
    · exact ih h
    · rename_i hn
      refine ih (List.nodup_append.mpr ⟨h, by simp, ?_⟩)
      intro x hx y hy e
      rw [List.mem_singleton] at hy
      subst hy; subst e
      exact hn hx
theorem grow_len {ks ts : List Int} : (grow ks ts).length ≤ ks.length + ts.length := by
  induction ts generalizing ks with
  | nil => simp [grow]
  | cons a ts ih =>
    rw [grow]
    have := ih (ks := if a ∈ ks then ks else ks ++ [a])
    have h2 : (if a ∈ ks then ks else ks ++ [a]).length ≤ ks.length + 1 := by split <;> simp
    simp only [List.length_cons]; omega
theorem grow_head {k : Int} {ks ts : List Int} : ∃ r, grow (k :: ks) ts = k :: r := by
  induction ts generalizing ks with
  | nil => exact ⟨ks, rfl⟩
  | cons a ts ih =>
    rw [grow]
    split
    · exact ih
    · exact ih
/-- one to one on what stands there -/
def InjOn (f : Int → Int) (xs : List Int) : Prop := ∀ a ∈ xs, ∀ b ∈ xs, f a = f b → a = b
theorem InjOn.sub {f : Int → Int} {xs ys : List Int} (h : InjOn f xs) (hs : ∀ y ∈ ys, y ∈ xs) : InjOn f ys := fun a ha b hb => h a (hs a ha) b (hs b hb)
theorem InjOn.mem {f : Int → Int} {xs ys : List Int} {t : Int} (h : InjOn f xs) (ht : t ∈ xs) (hs : ∀ y ∈ ys, y ∈ xs) : f t ∈ ys.map f ↔ t ∈ ys := by
  rw [List.mem_map]
  constructor
  · rintro ⟨y, hy, e⟩
    rw [h t ht y (hs y hy) e.symm]; exact hy
  · exact fun hy => ⟨t, hy, rfl⟩
theorem grow_map {f : Int → Int} {ks ts : List Int} (h : InjOn f (ks ++ ts)) : grow (ks.map f) (ts.map f) = (grow ks ts).map f := by
  induction ts generalizing ks with
  | nil => rfl
  | cons a ts ih =>
    rw [List.map_cons, grow, grow]
    have m := h.mem (t := a) (ys := ks) (by simp) (fun y hy => by simp [hy])
    by_cases e : a ∈ ks
    · rw [if_pos e, if_pos (m.mpr e)]
      exact ih (h.sub fun y hy => by simp only [List.mem_append, List.mem_cons] at *; rcases hy with hy | hy <;> simp [hy])
    · rw [if_neg e, if_neg fun z => e (m.mp z)]
      have : ks.map f ++ [f a] = (ks ++ [a]).map f := by simp
      rw [this]
      exact ih (h.sub fun y hy => by simp only [List.mem_append, List.mem_cons, List.not_mem_nil, or_false] at *; rcases hy with (hy | hy) | hy <;> simp [hy])
theorem idx_map {f : Int → Int} {ks : List Int} {t : Int} (h : InjOn f ks) (ht : t ∈ ks) : (ks.map f).idxOf (f t) = ks.idxOf t := by
  induction ks with
  | nil => simp at ht
  | cons a ks ih =>
    rw [List.map_cons, List.idxOf_cons, List.idxOf_cons]
    by_cases e : a = t
    · subst e; simp
    · have hn : f a ≠ f t := fun z => e (h a (by simp) t ht z)
      rw [beq_eq_false_iff_ne.mpr hn, beq_eq_false_iff_ne.mpr e]
      have := ih (h.sub fun y hy => List.mem_cons_of_mem _ hy) ((List.mem_cons.mp ht).resolve_left (Ne.symm e))
      simp [this]
theorem idx_inj {ks : List Int} {a b : Int} (ha : a ∈ ks) (hb : b ∈ ks) (h : ks.idxOf a = ks.idxOf b) : a = b := by
  have h1 := List.getElem_idxOf (List.idxOf_lt_length_of_mem ha)
  have h2 := List.getElem_idxOf (List.idxOf_lt_length_of_mem hb)
  rw [← h1, ← h2]
  congr 1
theorem num_inj {ks xs : List Int} (h : ∀ x ∈ xs, x ∈ ks) : InjOn (num ks) xs := by
  intro a ha b hb e
  unfold num at e
  exact idx_inj (h a ha) (h b hb) (by omega)
/-- numbered as they come -/
def knownT (A B : List Int) : List Int := grow [-1] (A ++ B)
theorem known_mem {A B : List Int} {x : Int} (h : x ∈ A ∨ x ∈ B) : x ∈ knownT A B := (grow_sub _).mpr (.inr (List.mem_append.mpr h))
theorem known_blank {A B : List Int} : (-1) ∈ knownT A B := (grow_sub _).mpr (.inl (by simp))
theorem num_blank {A B : List Int} : num (knownT A B) (-1) = -1 := by
  obtain ⟨r, e⟩ := grow_head (k := -1) (ks := []) (ts := A ++ B)
  unfold num knownT
  rw [e]; simp
theorem num_bd {A B : List Int} {x : Int} (h : x ∈ A ∨ x ∈ B) : -1 ≤ num (knownT A B) x ∧ num (knownT A B) x ≤ (A.length + B.length : Nat) - 1 := by
  have h1 := List.idxOf_lt_length_of_mem (known_mem h)
  have h2 := grow_len (ks := [-1]) (ts := A ++ B)
  unfold num
  unfold knownT at h1 ⊢
  simp only [List.length_append, List.length_cons, List.length_nil] at h2
  omega
theorem num_blank_iff {A B : List Int} {x : Int} (h : x ∈ A ∨ x ∈ B) : num (knownT A B) x = -1 ↔ x = -1 := by
  constructor
  · intro e
    have hi := num_inj (ks := knownT A B) (xs := knownT A B) fun _ h => h
    exact hi x (known_mem h) (-1) known_blank (by rw [e, num_blank])
  · rintro rfl; exact num_blank
/-- named twice is named once -/
theorem known_twice {A B : List Int} : knownT (A.map (num (knownT A B))) (B.map (num (knownT A B))) = (knownT A B).map (num (knownT A B)) := by
  have e : grow ([-1].map (num (knownT A B))) ((A ++ B).map (num (knownT A B))) = (grow [-1] (A ++ B)).map (num (knownT A B)) := grow_map (num_inj fun x hx => by
    rcases List.mem_append.mp hx with hx | hx
    · rw [List.mem_singleton.mp hx]; exact known_blank
    · exact known_mem (List.mem_append.mp hx))
  have e2 : [-1].map (num (knownT A B)) = [-1] := by rw [List.map_cons, num_blank]; rfl
  rw [e2, List.map_append] at e
  exact e
theorem num_twice {A B : List Int} {x : Int} (h : x ∈ A ∨ x ∈ B) : num (knownT (A.map (num (knownT A B))) (B.map (num (knownT A B)))) (num (knownT A B) x) = num (knownT A B) x := by
  rw [known_twice]
  have := idx_map (f := num (knownT A B)) (num_inj (xs := knownT A B) fun _ h => h) (known_mem h)
  rw [num, this]; rfl
theorem map_row {A B X : List Int} (hX : ∀ x ∈ X, x ∈ A ∨ x ∈ B) (h : RowOk X) (hl : A.length + B.length ≤ 8) : RowOk (X.map (num (knownT A B))) := by
  refine ⟨fun y hy => ?_, fun y hy hn => ?_⟩
  · obtain ⟨x, hx, rfl⟩ := List.mem_map.mp hy
    have := num_bd (hX x hx); omega
  · obtain ⟨x, hx, rfl⟩ := List.mem_map.mp hy
    have hi := num_inj (ks := knownT A B) (xs := X) fun z hz => known_mem (hX z hz)
    have c : (X.map (num (knownT A B))).count (num (knownT A B) x) = X.count x := by
      rw [List.count, List.countP_map, List.count]
      refine List.countP_congr fun z hz => ?_
      simp only [Function.comp_apply, beq_iff_eq]
      exact ⟨fun e => hi z hz x hx e, fun e => by rw [e]⟩
    rw [c]
    exact h.one x hx fun e => hn (by rw [e]; exact num_blank)
end Gz
/-! Pairs of states: numbered by the program, by the laws. -/
namespace Gz
open PySem L2
/-! ### dicts of numbers -/
def dictF (n : Nat) : List Int → List (Key × Val)
  | [] => []
  | k :: ks => (.inl k, .int ((n : Int) - 1)) :: dictF (n + 1) ks
@[simp] theorem dictF_len {n : Nat} {ks : List Int} : (dictF n ks).length = ks.length := by
  induction ks generalizing n with
  | nil => rfl
  | cons k ks ih => rw [dictF, List.length_cons, ih, List.length_cons]
theorem dictF_snoc {n : Nat} {ks : List Int} {t : Int} : dictF n (ks ++ [t]) = dictF n ks ++ [(.inl t, .int (((n + ks.length : Nat) : Int) - 1))] := by
  induction ks generalizing n with
  | nil => simp [dictF]
  | cons k ks ih =>
    rw [List.cons_append, dictF, dictF, ih, List.length_cons, List.cons_append]
    congr 6; omega
theorem dictF_get {n : Nat} {ks : List Int} {t : Int} : valK (dictF n ks) (.inl t) = if t ∈ ks then some (.int (((n + ks.idxOf t : Nat) : Int) - 1)) else none := by
  induction ks generalizing n with
  | nil => simp [dictF, valK]
  | cons k ks ih =>
    unfold valK at ih ⊢
    rw [dictF, List.find?_cons]
    by_cases e : k = t
    · subst e; simp
    · have e1 : (decide ((Sum.inl k : Key) = .inl t)) = false := decide_eq_false fun z => e (Sum.inl.inj z)
      rw [e1]
      dsimp only
      rw [ih, List.idxOf_cons, beq_eq_false_iff_ne.mpr e]
      by_cases h : t ∈ ks
      · rw [if_pos h, if_pos (List.mem_cons_of_mem _ h)]
        simp only [cond_false]
        congr 3; omega
      · rw [if_neg h, if_neg fun z => h ((List.mem_cons.mp z).resolve_left (Ne.symm e))]
theorem dictF_put {n : Nat} {ks : List Int} {t : Int} {v : Val} (h : t ∉ ks) : putV (dictF n ks) (.inl t) v = dictF n ks ++ [(.inl t, v)] := by
  unfold putV
  have : ((dictF n ks).any fun kv => decide (kv.1 = (.inl t : Key))) = false := by
    induction ks generalizing n with
    | nil => rfl
    | cons k ks ih =>
      rw [dictF, List.any_cons, ih fun z => h (List.mem_cons_of_mem _ z)]
      have : ¬ (Sum.inl k : Key) = .inl t := fun z => h (by rw [Sum.inl.inj z]; exact List.mem_cons_self)
      simp [this]
  rw [this, if_neg (by simp)]
abbrev dictOf (ks : List Int) : List (Key × Val) := dictF 0 ks
theorem dict_get {ks : List Int} {t : Int} : valK (dictOf ks) (.inl t) = if t ∈ ks then some (.int (num ks t)) else none := by
  rw [dictF_get]; simp [num]
@[simp] theorem isin_dct {kvs : List (Key × Val)} {t : Int} : isin (.int t) (.dct kvs) = some (valK kvs (.inl t)).isSome := rfl
@[simp] theorem x_dct {kvs : List (Key × Val)} {t : Int} : idxop (.dct kvs) (.int t) = valK kvs (.inl t) := rfl
@[simp] theorem l_dct {kvs : List (Key × Val)} : bltop .len [.dct kvs] = some (.val (.int kvs.length)) := rfl
/-! ### pairs -/
structure Pa where
  A : List Int
  la : Nat
  B : List Int
  lb : Nat
def Pa.v (p : Pa) : Val := .tup [sV p.A p.la, sV p.B p.lb]
def Pa.ks (p : Pa) : List Int := knownT p.A p.B
def nameT (p : Pa) : Pa := ⟨p.A.map (num p.ks), p.la, p.B.map (num p.ks), p.lb⟩
/-- two states -/
structure TwoOk (r1 r2 : Ru) (p : Pa) : Prop where
  a : StOk r1 p.A p.la
  b : StOk r2 p.B p.lb
structure PaOk (r1 r2 : Ru) (p : Pa) : Prop extends TwoOk r1 r2 p where
  bd : ∀ x, x ∈ p.A ∨ x ∈ p.B → x ≤ 7
  nm : nameT p = p
theorem TwoOk.len {r1 r2 : Ru} (h1 : r1.ok) (h2 : r2.ok) {p : Pa} (h : TwoOk r1 r2 p) : p.A.length + p.B.length ≤ 8 := by
  have := h.a.len; have := h.b.len; have := h1.p4; have := h2.p4; omega
theorem nameOk {r1 r2 : Ru} (h1 : r1.ok) (h2 : r2.ok) {p : Pa} (h : TwoOk r1 r2 p) : PaOk r1 r2 (nameT p) := by
  have hl := h.len h1 h2
  refine ⟨⟨.mk' (map_row (fun x hx => .inl hx) h.a.row hl) (by simp [nameT, h.a.len]) h.a.lab, .mk' (map_row (fun x hx => .inr hx) h.b.row hl) (by simp [nameT, h.b.len]) h.b.lab⟩, ?_, ?_⟩
  · intro x hx
    have : ∃ y, (y ∈ p.A ∨ y ∈ p.B) ∧ num p.ks y = x := by
      rcases hx with hx | hx
      · obtain ⟨y, hy, rfl⟩ := List.mem_map.mp hx; exact ⟨y, .inl hy, rfl⟩
      · obtain ⟨y, hy, rfl⟩ := List.mem_map.mp hx; exact ⟨y, .inr hy, rfl⟩
    obtain ⟨y, hy, rfl⟩ := this
    have := num_bd hy
    unfold Pa.ks; omega
  · unfold nameT
    have e1 : (p.A.map (num p.ks)).map (num (Pa.ks ⟨p.A.map (num p.ks), p.la, p.B.map (num p.ks), p.lb⟩)) = p.A.map (num p.ks) := by
      rw [List.map_map]
      exact List.map_congr_left fun x hx => num_twice (.inl hx)
    have e2 : (p.B.map (num p.ks)).map (num (Pa.ks ⟨p.A.map (num p.ks), p.la, p.B.map (num p.ks), p.lb⟩)) = p.B.map (num p.ks) := by
      rw [List.map_map]
      exact List.map_congr_left fun x hx => num_twice (.inr hx)
    dsimp only
    rw [e1, e2]
section
variable {T : List Def} {k n : Nat} {s : Sto}
theorem named_for {F : FT} {a b : Option Slot} : ∀ {ts ks : List Int} {y : Option Slot}, ks.length + ts.length ≤ 1000 → ∃ y', forLoop (turnB F [3] NamedD_b2) (iV ts) [a, b, some (.dic (dictOf ks)), y, none, none] s = .ok .next [a, b, some (.dic (dictOf (grow ks ts))), y', none, none] s
  | [], ks, y, _ => ⟨y, by show forLoop _ [] _ _ = _; rw [forLoop]; rfl⟩
  | t :: ts, ks, y, h => by
    simp only [List.length_cons] at h
    by_cases e : t ∈ ks
    · obtain ⟨y', e2⟩ := named_for (F := F) (a := a) (b := b) (ts := ts) (ks := ks) (y := some (.val (.int t))) (by omega)
      refine ⟨y', ?_⟩
      show forLoop _ (.int t :: iV ts) _ _ = _
      rw [forLoop, grow, if_pos e, ← e2]
      have g := dict_get (ks := ks) (t := t)
      rw [if_pos e] at g
      simp -implicitDefEqProofs [turnB, NamedD_b2, g]
    · obtain ⟨y', e2⟩ := named_for (F := F) (a := a) (b := b) (ts := ts) (ks := ks ++ [t]) (y := some (.val (.int t))) (by simp; omega)
      refine ⟨y', ?_⟩
      show forLoop _ (.int t :: iV ts) _ _ = _
      rw [forLoop, grow, if_neg e, ← e2]
      have g := dict_get (ks := ks) (t := t)
      rw [if_neg e] at g
      have hp := dictF_put (n := 0) (v := .int ((ks.length : Int) - 1)) e
      have hs := dictF_snoc (n := 0) (ks := ks) (t := t)
      rw [Nat.zero_add] at hs
      rw [← hs] at hp
      have hz : ks.length < sizeLine := Nat.lt_of_lt_of_le (show ks.length < 1001 by omega) (by rw [sizeLine_eq]; omega)
      simp -implicitDefEqProofs [turnB, NamedD_b2, g, hp, hz]
theorem named_l0 {F : FT} {a b y f : Option Slot} {ks X : List Int} (hX : ∀ x ∈ X, x ∈ ks) (hl : X.length ≤ 1000) : evE F NamedD_l0 [a, b, some (.dic (dictOf ks)), y, some (.val (.tup (iV X))), f] s = .ok (.fr (iV (X.map (num ks)))) [a, b, some (.dic (dictOf ks)), none, some (.val (.tup (iV X))), f] s := by
  unfold NamedD_l0
  rw [ev_lc]
  have e : evI F (.seq (.var 4)) [a, b, some (.dic (dictOf ks)), y, some (.val (.tup (iV X))), f] s = .ok (iV X) [a, b, some (.dic (dictOf ks)), y, some (.val (.tup (iV X))), f] s := by simp -implicitDefEqProofs
  rw [e, bind_ok, lc_map (g := fun v => match v with | .int i => .int (num ks i) | x => x) [] (by have := le_line (n := X.length) hl; simpa using this) ?_]
  · have : (iV X).map (fun v => match v with | .int i => .int (num ks i) | x => x) = iV (X.map (num ks)) := by unfold iV; rw [List.map_map, List.map_map]; rfl
    simp [this]
  · intro x hx
    obtain ⟨i, hi, rfl⟩ := List.mem_map.mp hx
    have g := dict_get (ks := ks) (t := i)
    rw [if_pos (hX i hi)] at g
    simp -implicitDefEqProofs [turnF, g]
theorem named (hN : T[n]? = some NamedD) {p : Pa} (hl : p.A.length + p.B.length ≤ 100) : callN T (k + 1) n [sV p.A p.la, sV p.B p.lb] s = .ok (.val (nameT p).v) s := by
  rw [callN_eq hN]
  have ha : binop .add (.tup (iV p.A)) (.tup (iV p.B)) = some (.val (.tup (iV (p.A ++ p.B)))) := by rw [tup_add (by simp; omega)]; unfold iV; rw [List.map_append]
  have f : ∃ y', exS (callN T k) NamedD_f2 [some (.val (sV p.A p.la)), some (.val (sV p.B p.lb)), some (.dic (dictOf [-1])), none, none, none] s = .ok .next [some (.val (sV p.A p.la)), some (.val (sV p.B p.lb)), some (.dic (dictOf p.ks)), y', none, none] s := by
    unfold NamedD_f2
    rw [ex_for]
    have e : evI (callN T k) (.seq (.bin .add (.idxV 0 (.cst (.int 0))) (.idxV 1 (.cst (.int 0))))) [some (.val (sV p.A p.la)), some (.val (sV p.B p.lb)), some (.dic (dictOf [-1])), none, none, none] s = .ok (iV (p.A ++ p.B)) [some (.val (sV p.A p.la)), some (.val (sV p.B p.lb)), some (.dic (dictOf [-1])), none, none, none] s := by
      simp -implicitDefEqProofs [sV, ha]
    rw [e, bind_ok]
    exact named_for (by simp; omega)
  obtain ⟨y', f⟩ := f
  have l := fun (y : Option Slot) (lab : Nat) => named_l0 (F := callN T k) (s := s) (a := some (.val (sV p.A p.la))) (b := some (.val (sV p.B p.lb))) (y := y) (f := some (.val (.int lab))) (ks := p.ks) (X := p.A) (fun x hx => known_mem (.inl hx)) (by omega)
  have l' := fun (y : Option Slot) (lab : Nat) => named_l0 (F := callN T k) (s := s) (a := some (.val (sV p.A p.la))) (b := some (.val (sV p.B p.lb))) (y := y) (f := some (.val (.int lab))) (ks := p.ks) (X := p.B) (fun x hx => known_mem (.inr hx)) (by omega)
  have l1 : ∃ z, evE (callN T k) NamedD_l1 [some (.val (sV p.A p.la)), some (.val (sV p.B p.lb)), some (.dic (dictOf p.ks)), y', none, none] s = .ok (.fr [sV (nameT p).A p.la, sV (nameT p).B p.lb]) z s := by
    unfold NamedD_l1
    rw [ev_lc]
    have e : evI (callN T k) (.seq (.tup (.cons (.var 0) (.cons (.var 1) .nil)))) [some (.val (sV p.A p.la)), some (.val (sV p.B p.lb)), some (.dic (dictOf p.ks)), y', none, none] s = .ok [sV p.A p.la, sV p.B p.lb] [some (.val (sV p.A p.la)), some (.val (sV p.B p.lb)), some (.dic (dictOf p.ks)), y', none, none] s := by
      simp -implicitDefEqProofs [le_line]
    rw [e, bind_ok]
    have t1 := fun y => show turnF (callN T k) [4, 5] .no (.tup (.cons (.blt .tuple (.cons NamedD_l0 .nil)) (.cons (.var 5) .nil))) (sV p.A p.la) [some (.val (sV p.A p.la)), some (.val (sV p.B p.lb)), some (.dic (dictOf p.ks)), y, none, none] s = .ok (some (sV (nameT p).A p.la)) [some (.val (sV p.A p.la)), some (.val (sV p.B p.lb)), some (.dic (dictOf p.ks)), none, none, none] s by
      have := l y p.la
      generalize hq : sV p.B p.lb = q at *
      unfold sV at this ⊢
      simp -implicitDefEqProofs [turnF, this, le_line, nameT]
    have t2 := fun y => show turnF (callN T k) [4, 5] .no (.tup (.cons (.blt .tuple (.cons NamedD_l0 .nil)) (.cons (.var 5) .nil))) (sV p.B p.lb) [some (.val (sV p.A p.la)), some (.val (sV p.B p.lb)), some (.dic (dictOf p.ks)), y, none, none] s = .ok (some (sV (nameT p).B p.lb)) [some (.val (sV p.A p.la)), some (.val (sV p.B p.lb)), some (.dic (dictOf p.ks)), none, none, none] s by
      have := l' y p.lb
      generalize hq : sV p.A p.la = q at *
      unfold sV at this ⊢
      simp -implicitDefEqProofs [turnF, this, le_line, nameT]
    refine ⟨[some (.val (sV p.A p.la)), some (.val (sV p.B p.lb)), some (.dic (dictOf p.ks)), none, none, none], ?_⟩
    have z0 : (0 : Nat) < sizeLine := by rw [sizeLine_eq]; omega
    have z1 : (1 : Nat) < sizeLine := by rw [sizeLine_eq]; omega
    simp -implicitDefEqProofs [lcLoop, t1, t2, z0, z1]
  obtain ⟨z, l1⟩ := l1
  have d0 : dictOf [-1] = [(.inl (-1), .int (-1))] := rfl
  rw [d0] at f
  simp -implicitDefEqProofs [runD, NamedD, f, l1, Pa.v, nameT]
end
end Gz
/-! The laws' own numbering; moves. -/
namespace Gz
open PySem L2
section
variable {T : List Def} {k n : Nat} {s : Sto}
theorem lnamed_for {F : FT} {a : Option Slot} : ∀ {ts ks : List Int} {y : Option Slot}, ks.length + ts.length ≤ 1000 → ∃ y', forLoop (turnB F [2] LNamedD_b2) (iV ts) [a, some (.own (iV ks)), y, none, none] s = .ok .next [a, some (.own (iV (grow ks ts))), y', none, none] s
  | [], ks, y, _ => ⟨y, by show forLoop _ [] _ _ = _; rw [forLoop]; rfl⟩
  | t :: ts, ks, y, h => by
    simp only [List.length_cons] at h
    by_cases e : t ∈ ks
    · obtain ⟨y', e2⟩ := lnamed_for (F := F) (a := a) (ts := ts) (ks := ks) (y := some (.val (.int t))) (by omega)
      refine ⟨y', ?_⟩
      show forLoop _ (.int t :: iV ts) _ _ = _
      rw [forLoop, grow, if_pos e, ← e2]
      simp -implicitDefEqProofs [turnB, LNamedD_b2, isin_intsL, e]
    · obtain ⟨y', e2⟩ := lnamed_for (F := F) (a := a) (ts := ts) (ks := ks ++ [t]) (y := some (.val (.int t))) (by simp; omega)
      refine ⟨y', ?_⟩
      show forLoop _ (.int t :: iV ts) _ _ = _
      rw [forLoop, grow, if_neg e, ← e2]
      have hz : ks.length < sizeLine := Nat.lt_of_lt_of_le (show ks.length < 1001 by omega) (by rw [sizeLine_eq]; omega)
      have hs : iV ks ++ [.int t] = iV (ks ++ [t]) := by unfold iV; simp
      simp -implicitDefEqProofs [turnB, LNamedD_b2, isin_intsL, e, hz, hs]
theorem lnamed_l0 {F : FT} {a y f : Option Slot} {ks X : List Int} (hX : ∀ x ∈ X, x ∈ ks) (hl : X.length ≤ 1000) : evE F LNamedD_l0 [a, some (.own (iV ks)), y, some (.val (.tup (iV X))), f] s = .ok (.fr (iV (X.map (num ks)))) [a, some (.own (iV ks)), none, some (.val (.tup (iV X))), f] s := by
  unfold LNamedD_l0
  rw [ev_lc]
  have e : evI F (.seq (.var 3)) [a, some (.own (iV ks)), y, some (.val (.tup (iV X))), f] s = .ok (iV X) [a, some (.own (iV ks)), y, some (.val (.tup (iV X))), f] s := by simp -implicitDefEqProofs
  rw [e, bind_ok, lc_map (g := fun v => match v with | .int i => .int (num ks i) | x => x) [] (by have := le_line (n := X.length) hl; simpa using this) ?_]
  · have : (iV X).map (fun v => match v with | .int i => .int (num ks i) | x => x) = iV (X.map (num ks)) := by unfold iV; rw [List.map_map, List.map_map]; rfl
    simp [this]
  · intro x hx
    obtain ⟨i, hi, rfl⟩ := List.mem_map.mp hx
    have g := mth_indexL (hX i hi)
    simp -implicitDefEqProofs [turnF, g, num]
theorem lnamed (hN : T[n]? = some LNamedD) {p : Pa} (hl : p.A.length + p.B.length ≤ 100) : callN T (k + 1) n [p.v] s = .ok (.val (nameT p).v) s := by
  rw [callN_eq hN]
  have ha : binop .add (.tup (iV p.A)) (.tup (iV p.B)) = some (.val (.tup (iV (p.A ++ p.B)))) := by rw [tup_add (by simp; omega)]; unfold iV; rw [List.map_append]
  have f : ∃ y', exS (callN T k) LNamedD_f2 [some (.val p.v), some (.own (iV [-1])), none, none, none] s = .ok .next [some (.val p.v), some (.own (iV p.ks)), y', none, none] s := by
    unfold LNamedD_f2
    rw [ex_for]
    have e : evI (callN T k) (.seq (.bin .add (.idx (.idxV 0 (.cst (.int 0))) (.cst (.int 0))) (.idx (.idxV 0 (.cst (.int 1))) (.cst (.int 0))))) [some (.val p.v), some (.own (iV [-1])), none, none, none] s = .ok (iV (p.A ++ p.B)) [some (.val p.v), some (.own (iV [-1])), none, none, none] s := by
      simp -implicitDefEqProofs [sV, Pa.v, ha]
    rw [e, bind_ok]
    exact lnamed_for (by simp; omega)
  obtain ⟨y', f⟩ := f
  have l := fun (y : Option Slot) (lab : Nat) => lnamed_l0 (F := callN T k) (s := s) (a := some (.val p.v)) (y := y) (f := some (.val (.int lab))) (ks := p.ks) (X := p.A) (fun x hx => known_mem (.inl hx)) (by omega)
  have l' := fun (y : Option Slot) (lab : Nat) => lnamed_l0 (F := callN T k) (s := s) (a := some (.val p.v)) (y := y) (f := some (.val (.int lab))) (ks := p.ks) (X := p.B) (fun x hx => known_mem (.inr hx)) (by omega)
  have l1 : ∃ z, evE (callN T k) LNamedD_l1 [some (.val p.v), some (.own (iV p.ks)), y', none, none] s = .ok (.fr [sV (nameT p).A p.la, sV (nameT p).B p.lb]) z s := by
    unfold LNamedD_l1
    rw [ev_lc]
    have e : evI (callN T k) (.seq (.var 0)) [some (.val p.v), some (.own (iV p.ks)), y', none, none] s = .ok [sV p.A p.la, sV p.B p.lb] [some (.val p.v), some (.own (iV p.ks)), y', none, none] s := by
      simp -implicitDefEqProofs [Pa.v]
    rw [e, bind_ok]
    generalize hq : some (Slot.val p.v) = q at *
    have t1 := fun y => show turnF (callN T k) [3, 4] .no (.tup (.cons (.blt .tuple (.cons LNamedD_l0 .nil)) (.cons (.var 4) .nil))) (sV p.A p.la) [q, some (.own (iV p.ks)), y, none, none] s = .ok (some (sV (nameT p).A p.la)) [q, some (.own (iV p.ks)), none, none, none] s by
      have := l y p.la
      unfold sV at this ⊢
      simp -implicitDefEqProofs [turnF, this, le_line, nameT]
    have t2 := fun y => show turnF (callN T k) [3, 4] .no (.tup (.cons (.blt .tuple (.cons LNamedD_l0 .nil)) (.cons (.var 4) .nil))) (sV p.B p.lb) [q, some (.own (iV p.ks)), y, none, none] s = .ok (some (sV (nameT p).B p.lb)) [q, some (.own (iV p.ks)), none, none, none] s by
      have := l' y p.lb
      unfold sV at this ⊢
      simp -implicitDefEqProofs [turnF, this, le_line, nameT]
    refine ⟨[q, some (.own (iV p.ks)), none, none, none], ?_⟩
    have z0 : (0 : Nat) < sizeLine := by rw [sizeLine_eq]; omega
    have z1 : (1 : Nat) < sizeLine := by rw [sizeLine_eq]; omega
    simp -implicitDefEqProofs [lcLoop, t1, t2, z0, z1]
  obtain ⟨z, l1⟩ := l1
  have d0 : iV [-1] = [.int (-1)] := rfl
  rw [d0] at f
  have ev : (nameT p).v = .tup [sV (nameT p).A p.la, sV (nameT p).B p.lb] := rfl
  rw [ev]
  simp -implicitDefEqProofs [runD, LNamedD, f, l1, le_line]
/-! ### how many things there are -/
def manyT (p : Pa) : Int := (maxI (p.A ++ p.B)).getD 0 + 1
theorem max_iV {ns : List Int} : bltop .max1 [.tup (iV ns)] = (maxI ns).map fun i => .val (.int i) := by
  show (ints? (iV ns)).bind _ = _
  have : ints? (iV ns) = some ns := ints_map ns
  rw [this]; rfl
theorem many {r1 r2 : Ru} (h1 : r1.ok) (h2 : r2.ok) (hN : T[n]? = some HowManyD) {p : Pa} (hp : TwoOk r1 r2 p) : callN T (k + 1) n [p.v] s = .ok (.val (.int (manyT p))) s := by
  rw [callN_eq hN]
  have hl := hp.len h1 h2
  have ha : binop .add (.tup (iV p.A)) (.tup (iV p.B)) = some (.val (.tup (iV (p.A ++ p.B)))) := by rw [tup_add (by simp; omega)]; unfold iV; rw [List.map_append]
  obtain ⟨m, hm⟩ : ∃ m, maxI (p.A ++ p.B) = some m := by
    have := hp.a.len; have := h1.p1
    match e : p.A ++ p.B with
    | [] => have := congrArg List.length e; rw [List.length_append, List.length_nil] at this; omega
    | x :: r => exact ⟨_, rfl⟩
  simp -implicitDefEqProofs [runD, HowManyD, Pa.v, sV, ha, max_iV, hm, manyT]
theorem many_bd {r1 r2 : Ru} (h1 : r1.ok) {p : Pa} (hp : PaOk r1 r2 p) : 0 ≤ manyT p ∧ manyT p ≤ 8 := by
  obtain ⟨m, hm⟩ : ∃ m, maxI (p.A ++ p.B) = some m := by
    have := hp.a.len; have := h1.p1
    match e : p.A ++ p.B with
    | [] => have := congrArg List.length e; rw [List.length_append, List.length_nil] at this; omega
    | x :: r => exact ⟨_, rfl⟩
  have h := (maxI_is hm).2.1
  have h' := List.mem_append.mp h
  have b1 := hp.bd m h'
  have b2 : -1 ≤ m := by rcases h' with h' | h'; exact (hp.a.bd m h').1; exact (hp.b.bd m h').1
  unfold manyT
  rw [hm]; simp; omega
/-! ### moves -/
def moveT (r1 r2 : Ru) (p : Pa) (n : Int) : Bool × Bool × Pa :=
  ((stepT r1 p.A p.la n).1, (stepT r2 p.B p.lb n).1, nameT ⟨(stepT r1 p.A p.la n).2.2.1, (stepT r1 p.A p.la n).2.2.2, (stepT r2 p.B p.lb n).2.2.1, (stepT r2 p.B p.lb n).2.2.2⟩)
def mvV (x : Bool × Bool × Pa) : Val := .tup [.bl x.1, .bl x.2.1, x.2.2.v]
theorem move_two {r1 r2 : Ru} (h1 : r1.ok) (h2 : r2.ok) {p : Pa} (hp : TwoOk r1 r2 p) {t : Int} (h0 : 0 ≤ t) (h9 : t ≤ 99) : TwoOk r1 r2 ⟨(stepT r1 p.A p.la t).2.2.1, (stepT r1 p.A p.la t).2.2.2, (stepT r2 p.B p.lb t).2.2.1, (stepT r2 p.B p.lb t).2.2.2⟩ :=
  ⟨stepOk h1 hp.a h0 h9, stepOk h2 hp.b h0 h9⟩
theorem moveOk {r1 r2 : Ru} (h1 : r1.ok) (h2 : r2.ok) {p : Pa} (hp : TwoOk r1 r2 p) {t : Int} (h0 : 0 ≤ t) (h9 : t ≤ 99) : PaOk r1 r2 (moveT r1 r2 p t).2.2 := nameOk h1 h2 (move_two h1 h2 hp h0 h9)
theorem movedBy {nn ns na : Nat} (hN : T[nn]? = some NamedD) (hA : T[na]? = some ArrD) (hS : T[ns]? = some (StepD na)) (hM : T[n]? = some (MovedByD nn ns)) {r1 r2 : Ru} (h1 : r1.ok) (h2 : r2.ok) {p : Pa} (hp : TwoOk r1 r2 p) {t : Int} (h0 : 0 ≤ t) (h9 : t ≤ 99) :
    callN T (k + 3) n [r1.v, r2.v, p.v, .int t] s = .ok (.val (mvV (moveT r1 r2 p t))) s := by
  rw [callN_eq hM]
  have e1 := step (k := k) (s := s) hA hS h1 hp.a t
  have e2 := step (k := k) (s := s) hA hS h2 hp.b t
  have tw := (move_two h1 h2 hp h0 h9)
  have hl := tw.len h1 h2
  have e3 := named (k := k + 1) (s := s) hN (p := ⟨(stepT r1 p.A p.la t).2.2.1, (stepT r1 p.A p.la t).2.2.2, (stepT r2 p.B p.lb t).2.2.1, (stepT r2 p.B p.lb t).2.2.2⟩) (by omega)
  dsimp only at e3
  unfold moveT
  generalize hq : nameT _ = q at *
  generalize stepT r1 p.A p.la t = x at *
  generalize stepT r2 p.B p.lb t = y at *
  generalize r1.v = v1 at *
  generalize r2.v = v2 at *
  simp -implicitDefEqProofs [runD, MovedByD, Pa.v, e1, e2, resV, e3, le_line, mvV]
theorem lmoved {nn ns : Nat} (hN : T[nn]? = some LNamedD) (hS : T[ns]? = some LAskD) (hM : T[n]? = some (LMovedD nn ns)) {r1 r2 : Ru} (h1 : r1.ok) (h2 : r2.ok) {p : Pa} (hp : TwoOk r1 r2 p) {t : Int} (h0 : 0 ≤ t) (h9 : t ≤ 99) :
    callN T (k + 2) n [r1.v, r2.v, p.v, .int t] s = .ok (.val (mvV (moveT r1 r2 p t))) s := by
  rw [callN_eq hM]
  have e1 := lask (k := k) (s := s) hS h1 hp.a t
  have e2 := lask (k := k) (s := s) hS h2 hp.b t
  have tw := (move_two h1 h2 hp h0 h9)
  have hl := tw.len h1 h2
  have e3 := lnamed (k := k) (s := s) hN (p := ⟨(stepT r1 p.A p.la t).2.2.1, (stepT r1 p.A p.la t).2.2.2, (stepT r2 p.B p.lb t).2.2.1, (stepT r2 p.B p.lb t).2.2.2⟩) (by omega)
  rw [Pa.v] at e3
  dsimp only at e3
  unfold moveT
  generalize hq : nameT _ = q at *
  generalize stepT r1 p.A p.la t = x at *
  generalize stepT r2 p.B p.lb t = y at *
  generalize r1.v = v1 at *
  generalize r2.v = v2 at *
  simp -implicitDefEqProofs [runD, LMovedD, Pa.v, e1, e2, resV, le_line, mvV] at e3 ⊢
  simp -implicitDefEqProofs [runD, LMovedD, Pa.v, e1, e2, resV, e3, le_line, mvV]
end
end Gz
/-! == of tuples of numbers at any depth. -/
namespace Gz
open PySem L2
mutual
/-- numbers, None, tuples of these -/
def itr : Val → Bool
  | .int _ => true
  | .non => true
  | .tup xs => itrs xs
  | _ => false
def itrs : List Val → Bool
  | [] => true
  | x :: xs => itr x && itrs xs
end
theorem itrs_iff {xs : List Val} : itrs xs = true ↔ ∀ x ∈ xs, itr x = true := by
  induction xs with
  | nil => simp [itrs]
  | cons x xs ih => rw [itrs, Bool.and_eq_true, ih]; simp
mutual
theorem itr_lay : ∀ {v : Val} {d : PyData}, itr v = true → toD v = some d → d.canLay0 = true
  | .int _, d, _, e => by rw [toD] at e; cases e; rfl
  | .non, d, _, e => by rw [toD] at e; cases e; rfl
  | .tup xs, d, h, e => by
    rw [toD] at e
    cases e2 : toDs xs with
    | none => rw [e2] at e; cases e
    | some ds =>
      rw [e2] at e; cases e
      rw [itr] at h
      rw [PyData.canLay0]; exact itrs_lay h e2
  | .bl _, _, h, _ => by simp [itr] at h
  | .str _, _, h, _ => by simp [itr] at h
  | .lst _, _, h, _ => by simp [itr] at h
  | .fz _, _, h, _ => by simp [itr] at h
  | .dct _, _, h, _ => by simp [itr] at h
  | .loc _, _, h, _ => by simp [itr] at h
  | .fn _, _, h, _ => by simp [itr] at h
theorem itrs_lay : ∀ {xs : List Val} {ds : List PyData}, itrs xs = true → toDs xs = some ds → PyData.canLayAll0 ds = true
  | [], ds, _, e => by rw [toDs] at e; cases e; rfl
  | x :: xs, ds, h, e => by
    rw [itrs, Bool.and_eq_true] at h
    rw [toDs] at e
    cases e1 : toD x with
    | none => rw [e1] at e; cases e
    | some d =>
      cases e2 : toDs xs with
      | none => rw [e1, e2] at e; cases e
      | some ds =>
        rw [e1, e2] at e; cases e
        rw [PyData.canLayAll0, itr_lay h.1 e1, itrs_lay h.2 e2]; rfl
end
mutual
theorem itr_eqv : ∀ {v w : Val} {d e : PyData}, itr v = true → itr w = true → toD v = some d → toD w = some e → (PyData.eqv d e = true ↔ v = w)
  | .int i, w, d, e, _, hw, e1, e2 => by
    rw [toD] at e1; cases e1
    cases w with
    | int j => rw [toD] at e2; cases e2; rw [PyData.eqv]; simp
    | non => rw [toD] at e2; cases e2; simp [PyData.eqv]
    | tup ys =>
      rw [toD] at e2
      cases e3 : toDs ys with
      | none => rw [e3] at e2; cases e2
      | some ds => rw [e3] at e2; cases e2; simp [PyData.eqv]
    | _ => simp [itr] at hw
  | .non, w, d, e, _, hw, e1, e2 => by
    rw [toD] at e1; cases e1
    cases w with
    | int j => rw [toD] at e2; cases e2; simp [PyData.eqv]
    | non => rw [toD] at e2; cases e2; simp [PyData.eqv]
    | tup ys =>
      rw [toD] at e2
      cases e3 : toDs ys with
      | none => rw [e3] at e2; cases e2
      | some ds => rw [e3] at e2; cases e2; simp [PyData.eqv]
    | _ => simp [itr] at hw
  | .tup xs, w, d, e, hv, hw, e1, e2 => by
    rw [toD] at e1
    cases e3 : toDs xs with
    | none => rw [e3] at e1; cases e1
    | some ds =>
      rw [e3] at e1; cases e1
      cases w with
      | int j => rw [toD] at e2; cases e2; simp [PyData.eqv]
      | non => rw [toD] at e2; cases e2; simp [PyData.eqv]
      | tup ys =>
        rw [toD] at e2
        cases e4 : toDs ys with
        | none => rw [e4] at e2; cases e2
        | some es =>
          rw [e4] at e2; cases e2
          rw [itr] at hv hw
          rw [PyData.eqv, itrs_eqv hv hw e3 e4]
          simp
      | _ => simp [itr] at hw
  | .bl _, _, _, _, h, _, _, _ => by simp [itr] at h
  | .str _, _, _, _, h, _, _, _ => by simp [itr] at h
  | .lst _, _, _, _, h, _, _, _ => by simp [itr] at h
  | .fz _, _, _, _, h, _, _, _ => by simp [itr] at h
  | .dct _, _, _, _, h, _, _, _ => by simp [itr] at h
  | .loc _, _, _, _, h, _, _, _ => by simp [itr] at h
  | .fn _, _, _, _, h, _, _, _ => by simp [itr] at h
theorem itrs_eqv : ∀ {xs ys : List Val} {ds es : List PyData}, itrs xs = true → itrs ys = true → toDs xs = some ds → toDs ys = some es → (PyData.eqvAll ds es = true ↔ xs = ys)
  | [], ys, ds, es, _, _, e1, e2 => by
    rw [toDs] at e1; cases e1
    cases ys with
    | nil => rw [toDs] at e2; cases e2; simp [PyData.eqvAll]
    | cons y ys =>
      rw [toDs] at e2
      cases e3 : toD y with
      | none => rw [e3] at e2; cases e2
      | some d =>
        cases e4 : toDs ys with
        | none => rw [e3, e4] at e2; cases e2
        | some ds => rw [e3, e4] at e2; cases e2; simp [PyData.eqvAll]
  | x :: xs, ys, ds, es, hx, hy, e1, e2 => by
    rw [toDs] at e1
    cases e3 : toD x with
    | none => rw [e3] at e1; cases e1
    | some d =>
      cases e4 : toDs xs with
      | none => rw [e3, e4] at e1; cases e1
      | some ds =>
        rw [e3, e4] at e1; cases e1
        cases ys with
        | nil => rw [toDs] at e2; cases e2; simp [PyData.eqvAll]
        | cons y ys =>
          rw [toDs] at e2
          cases e5 : toD y with
          | none => rw [e5] at e2; cases e2
          | some f =>
            cases e6 : toDs ys with
            | none => rw [e5, e6] at e2; cases e2
            | some fs =>
              rw [e5, e6] at e2; cases e2
              rw [itrs, Bool.and_eq_true] at hx hy
              rw [PyData.eqvAll, Bool.and_eq_true, itr_eqv hx.1 hy.1 e3 e5, itrs_eqv hx.2 hy.2 e4 e6]
              simp
end
theorem dataEq_itr {v w : Val} (hv : itr v = true) (hw : itr w = true) (fv : fine v = true) (fw : fine w = true) (dv : dp v ≤ 60) (dw : dp w ≤ 60) : ∃ b, dataEq v w = some b ∧ (b = true ↔ v = w) := by
  obtain ⟨d, e1, _, p1, _⟩ := fine_ok fv
  obtain ⟨e, e2, _, p2, _⟩ := fine_ok fw
  refine ⟨PyData.eqv d e, ?_, itr_eqv hv hw e1 e2⟩
  have s1 : SeqAt.shaped d = true := by unfold SeqAt.shaped; rw [itr_lay hv e1, decide_eq_true (by omega)]; rfl
  have s2 : SeqAt.shaped e = true := by unfold SeqAt.shaped; rw [itr_lay hw e2, decide_eq_true (by omega)]; rfl
  rw [dataEq, e1, e2]
  dsimp only
  rw [s1, s2]; rfl
theorem eqq_itr {v w : Val} (hv : itr v = true) (hw : itr w = true) (fv : fine v = true) (fw : fine w = true) (dv : dp v ≤ 60) (dw : dp w ≤ 60) : ∃ b, eqq v w = some b ∧ (b = true ↔ v = w) := by
  obtain ⟨b, h1, h2⟩ := dataEq_itr hv hw fv fw dv dw
  unfold eqq
  cases e : shortEq v w with
  | none => exact ⟨b, h1, h2⟩
  | some c =>
    refine ⟨c, rfl, ?_⟩
    unfold shortEq at e
    split at e
    · rename_i ys
      cases e
      cases ys <;> simp
    · cases e; simp
    · simp [itr] at hv
    · simp [itr] at hv
    · cases e
theorem eqq_self {v : Val} (hv : itr v = true) (fv : fine v = true) (dv : dp v ≤ 60) : eqq v v = some true := by
  obtain ⟨b, h1, h2⟩ := eqq_itr hv hv fv fv dv dv
  rw [h1, h2.mpr rfl]
theorem itr_iV {ns : List Int} : itr (.tup (iV ns)) = true := by
  rw [itr, itrs_iff]
  intro x hx
  obtain ⟨i, _, rfl⟩ := List.mem_map.mp hx
  rw [itr]
theorem itr_nV {ns : List Nat} : itr (.tup (nV ns)) = true := by
  rw [itr, itrs_iff]
  intro x hx
  obtain ⟨i, _, rfl⟩ := List.mem_map.mp hx
  rw [itr]
theorem itr_sV {row : List Int} {lab : Nat} : itr (sV row lab) = true := by
  rw [sV, itr, itrs, itr_iV, itrs, itr, itrs]; rfl
theorem itr_pa {p : Pa} : itr p.v = true := by
  rw [Pa.v, itr, itrs, itr_sV, itrs, itr_sV, itrs]; rfl
theorem itr_ru {r : Ru} : itr r.v = true := by
  have m : ∀ ms : List Mv, itr (.tup (ms.map Mv.v)) = true := fun ms => by
    rw [itr, itrs_iff]
    intro x hx
    obtain ⟨m, _, rfl⟩ := List.mem_map.mp hx
    rw [Mv.v, itr, itrs, itr_nV, itrs, itr, itrs]; rfl
  rw [Ru.v, itr, itrs, itr, itrs, itrs, itr, Bool.true_and, Bool.and_true, itrs_iff]
  intro x hx
  obtain ⟨l, _, rfl⟩ := List.mem_map.mp hx
  rw [Lr.v, itr, itrs, m, itrs, itr, itrs, m, itrs]; rfl
end Gz
/-! The program's moved; walks. -/
namespace Gz
open PySem L2
theorem TwoOk.fit {r1 r2 : Ru} (h1 : r1.ok) (h2 : r2.ok) {p : Pa} (h : TwoOk r1 r2 p) : Fit p.v 3 50000 := by
  refine (Fit.tup (d := 2) (w := 20000) fun x hx => ?_).le (by omega) (by simp)
  simp only [List.mem_cons, List.not_mem_nil, or_false] at hx
  rcases hx with rfl | rfl
  · exact h.a.fit h1
  · exact h.b.fit h2
section
variable {T : List Def} {k n : Nat} {s : Sto}
structure RuleT (T : List Def) (nw no nm nms nr nu : Nat) : Prop where
  w : T[nw]? = some WholeD
  o : T[no]? = some (OrdD nw)
  m : T[nm]? = some (MoveD nw no)
  ms : T[nms]? = some (MovesD nm)
  r : T[nr]? = some (RowD nw nms)
  u : T[nu]? = some (RuleD nw nr)
theorem needRules {nw no nm nms nr nu nn : Nat} {x : CS} (R : RuleT T nw no nm nms nr nu) (hN : T[nn]? = some (NeedRuleD nu x)) (hNs : T[n]? = some (NeedRulesD nn)) {r1 r2 : Ru} (h1 : r1.ok) (h2 : r2.ok) : callN T (k + 8) n [r1.v, r2.v] s = .ok (.val .non) s := by
  rw [callN_eq hNs]
  have e1 := needRule (k := k) (s := s) R.w R.o R.m R.ms R.r R.u hN h1
  have e2 := needRule (k := k) (s := s) R.w R.o R.m R.ms R.r R.u hN h2
  generalize r1.v = v1 at *
  generalize r2.v = v2 at *
  simp -implicitDefEqProofs [runD, NeedRulesD, e1, e2]
/-- is_pair of an arrangement -/
theorem isPair {nw nrw nso nna : Nat} (hW : T[nw]? = some WholeD) (hR : T[nrw]? = some (IsRowD nw)) (hS : T[nso]? = some (StateOfD nrw nw)) (hNa : T[nna]? = some NamedD) (hP : T[n]? = some (IsPairD nna nso)) {r1 r2 : Ru} (h1 : r1.ok) (h2 : r2.ok) {p : Pa} (hp : PaOk r1 r2 p) : callN T (k + 4) n [r1.v, r2.v, p.v] s = .ok (.val (.bl true)) s := by
  rw [callN_eq hP]
  have e1 := stateOf (k := k) (s := s) hW hR hS h1 (hp.a.fine h1).1
  have e2 := stateOf (k := k) (s := s) hW hR hS h2 (hp.b.fine h2).1
  rw [isSt_of hp.a] at e1
  rw [isSt_of hp.b] at e2
  have e3 := named (k := k + 2) (s := s) hNa (p := p) (by have := hp.toTwoOk.len h1 h2; omega)
  rw [hp.nm] at e3
  have f := hp.toTwoOk.fit h1 h2
  have e4 := eqq_self (v := p.v) itr_pa f.f (by have := f.d; omega)
  rw [Pa.v] at *
  generalize r1.v = v1 at *
  generalize r2.v = v2 at *
  simp -implicitDefEqProofs [runD, IsPairD, isiv, e1, e2, e3, e4]
theorem moved {nw no nm nms nr nu nn nns nrw nso nna nip nhm na nst nmb : Nat} {x0 x1 x2 : CS} (R : RuleT T nw no nm nms nr nu) (hN : T[nn]? = some (NeedRuleD nu x0)) (hNs : T[nns]? = some (NeedRulesD nn)) (hR : T[nrw]? = some (IsRowD nw)) (hS : T[nso]? = some (StateOfD nrw nw)) (hNa : T[nna]? = some NamedD) (hP : T[nip]? = some (IsPairD nna nso))
    (hH : T[nhm]? = some HowManyD) (hA : T[na]? = some ArrD) (hSt : T[nst]? = some (StepD na)) (hB : T[nmb]? = some (MovedByD nna nst)) (hM : T[n]? = some (MovedD nmb nw nhm nip nns x1 x2)) {r1 r2 : Ru} (h1 : r1.ok) (h2 : r2.ok) {p : Pa} (hp : PaOk r1 r2 p) {t : Int} (h0 : 0 ≤ t) (ht : t ≤ manyT p) :
    callN T (k + 9) n [r1.v, r2.v, p.v, .int t] s = .ok (.val (mvV (moveT r1 r2 p t))) s := by
  rw [callN_eq hM]
  have b := many_bd h1 hp
  have e1 := needRules (k := k) (s := s) R hN hNs h1 h2
  have e2 := isPair (k := k + 4) (s := s) R.w hR hS hNa hP h1 h2 hp
  have e3 := many (k := k + 7) (s := s) h1 h2 hH hp.toTwoOk
  have e4 := whole (k := k + 7) (s := s) (lo := 0) (hi := manyT p) R.w (v := .int t) (fine_i (by omega) (by omega))
  have e5 := movedBy (k := k + 5) (s := s) hNa hA hSt hB h1 h2 hp.toTwoOk h0 (by omega)
  have w : isW 0 (manyT p) (.int t) = true := by simp [isW, h0, ht]
  rw [w] at e4
  generalize p.v = pv at *
  generalize r1.v = v1 at *
  generalize r2.v = v2 at *
  generalize moveT r1 r2 p t = mv at *
  simp -implicitDefEqProofs [runD, MovedD, e1, e2, e3, e4, e5]
/-! ### walks -/
def goT (r1 r2 : Ru) (p : Pa) : List Int → Pa
  | [] => p
  | n :: ns => goT r1 r2 (moveT r1 r2 p n).2.2 ns
def WalkOk (r1 r2 : Ru) (p : Pa) : List Int → Prop
  | [] => True
  | n :: ns => (0 ≤ n ∧ n ≤ manyT p) ∧ WalkOk r1 r2 (moveT r1 r2 p n).2.2 ns
def trailT (r1 r2 : Ru) (p : Pa) : List Int → List (Bool × Bool × Pa)
  | [] => []
  | n :: ns => moveT r1 r2 p n :: trailT r1 r2 (moveT r1 r2 p n).2.2 ns
theorem go_snoc {r1 r2 : Ru} {p : Pa} {ns : List Int} {n : Int} : goT r1 r2 p (ns ++ [n]) = (moveT r1 r2 (goT r1 r2 p ns) n).2.2 := by
  induction ns generalizing p with
  | nil => rfl
  | cons m ns ih => rw [List.cons_append, goT, goT, ih]
theorem walk_snoc {r1 r2 : Ru} {p : Pa} {ns : List Int} {n : Int} : WalkOk r1 r2 p (ns ++ [n]) ↔ WalkOk r1 r2 p ns ∧ 0 ≤ n ∧ n ≤ manyT (goT r1 r2 p ns) := by
  induction ns generalizing p with
  | nil => simp [WalkOk, goT]
  | cons m ns ih => rw [List.cons_append, WalkOk, WalkOk, goT, ih]; simp only [and_assoc]
theorem trail_snoc {r1 r2 : Ru} {p : Pa} {ns : List Int} {n : Int} : trailT r1 r2 p (ns ++ [n]) = trailT r1 r2 p ns ++ [moveT r1 r2 (goT r1 r2 p ns) n] := by
  induction ns generalizing p with
  | nil => rfl
  | cons m ns ih => rw [List.cons_append, trailT, trailT, goT, ih]; rfl
theorem trail_len {r1 r2 : Ru} {p : Pa} {ns : List Int} : (trailT r1 r2 p ns).length = ns.length := by
  induction ns generalizing p with
  | nil => rfl
  | cons m ns ih => rw [trailT, List.length_cons, ih]; rfl
theorem goOk {r1 r2 : Ru} (h1 : r1.ok) (h2 : r2.ok) {p : Pa} {ns : List Int} (hp : PaOk r1 r2 p) (hw : WalkOk r1 r2 p ns) : PaOk r1 r2 (goT r1 r2 p ns) := by
  induction ns generalizing p with
  | nil => exact hp
  | cons n ns ih =>
    have b := many_bd h1 hp
    have := hw.1
    exact ih (moveOk h1 h2 hp.toTwoOk (by omega) (by omega)) hw.2
def metT (r1 r2 : Ru) : Pa := ⟨firstT r1, 0, firstT r2, 0⟩
theorem metOk {r1 r2 : Ru} (h1 : r1.ok) (h2 : r2.ok) : PaOk r1 r2 (metT r1 r2) := by
  refine ⟨⟨firstOk h1, firstOk h2⟩, fun x hx => ?_, ?_⟩
  · rcases hx with hx | hx
    · rw [List.eq_of_mem_replicate hx]; omega
    · rw [List.eq_of_mem_replicate hx]; omega
  · unfold nameT metT
    have m : ∀ r : Ru, (firstT r).map (num (Pa.ks ⟨firstT r1, 0, firstT r2, 0⟩)) = firstT r := fun r => by
      unfold firstT Pa.ks
      rw [List.map_replicate, num_blank]
    dsimp only
    rw [m, m]
theorem met {nf : Nat} (hF : T[nf]? = some LFirstD) (hM : T[n]? = some (LMetD nf)) {r1 r2 : Ru} (h1 : r1.ok) (h2 : r2.ok) : callN T (k + 2) n [r1.v, r2.v] s = .ok (.val (metT r1 r2).v) s := by
  rw [callN_eq hM]
  have e1 := lfirst (k := k) (s := s) hF h1
  have e2 := lfirst (k := k) (s := s) hF h2
  generalize r1.v = v1 at *
  generalize r2.v = v2 at *
  simp -implicitDefEqProofs [runD, LMetD, e1, e2, le_line, Pa.v, metT]
theorem at_last {xs : List Val} {v : Val} : atI (xs ++ [v]) (-1) = some v := by
  have h : ixN (xs ++ [v]).length (-1) = some xs.length := by
    unfold ixN
    rw [List.length_append, List.length_cons, List.length_nil]
    simp
    omega
  unfold atI
  rw [h]
  simp
end
end Gz
/-! Drawn pairs of rules, drawn arrangements, drawn walks. -/
namespace Gz
open PySem L2
section
variable {T : List Def} {k n nd i : Nat} {s : Sto} {q : Int}
/-- the tables of drawn rules -/
structure DrawT (T : List Def) (nd nx nm nw nf n1 nr nq nn ng : Nat) : Prop where
  d : T[nd]? = some Draw
  x : T[nx]? = some (MixD nd)
  m : T[nm]? = some (MvsD nd nx)
  w : T[nw]? = some (DrawnD nd nm)
  f : T[nf]? = some FrontD
  o : T[n1]? = some OneD
  r : T[nr]? = some (RecentD nf n1)
  q : T[nq]? = some (QueueD nf n1)
  n : T[nn]? = some (NewestD nf n1)
  g : T[ng]? = some (RuleG nd nr nq nn nw)
theorem DrawT.rule {nx nm nw nf n1 nr nq nn ng : Nat} (D : DrawT T nd nx nm nw nf n1 nr nq nn ng) (hp : Pen s i q) (hn : q + 4000 < 1000000000000000000) {most l : Int} (h1 : 1 ≤ most) (h2 : most ≤ 4) (h3 : 1 ≤ l) (h4 : l ≤ 16) :
    ∃ r : Ru, r.ok ∧ ∃ s', callN T (k + 5) ng [.loc i, .int most, .int l] s = .ok (.val r.v) s' ∧ Pen s' i (q + 3000) ∧ s'.length = s.length := by
  obtain ⟨v, s1, e, h, p, ln⟩ := ruleG (k := k) (l := l) D.d D.x D.m D.w D.f D.o D.r D.q D.n D.g hp hn h1 h2 h3 h4
  obtain ⟨r, rfl, hr⟩ := drawn_ru h4 h
  exact ⟨r, hr, s1, e, p, ln⟩
theorem DrawT.two {nx nm nw nf n1 nr nq nn ng : Nat} (D : DrawT T nd nx nm nw nf n1 nr nq nn ng) (hT : T[n]? = some (LTwoD ng)) (hp : Pen s i q) (hn : q + 8000 < 1000000000000000000) {most : Int} (h1 : 1 ≤ most) (h2 : most ≤ 4) :
    ∃ r1 r2 : Ru, r1.ok ∧ r2.ok ∧ ∃ s', callN T (k + 6) n [.loc i, .int most] s = .ok (.val (.tup [r1.v, r2.v])) s' ∧ Pen s' i (q + 6000) ∧ s'.length = s.length := by
  obtain ⟨r1, o1, s1, e1, p1, l1⟩ := D.rule (k := k) hp (by omega) (most := most) (l := 2) h1 h2 (by omega) (by omega)
  obtain ⟨r2, o2, s2, e2, p2, l2⟩ := D.rule (k := k) p1 (by omega) (most := most) (l := 2) h1 h2 (by omega) (by omega)
  refine ⟨r1, r2, o1, o2, s2, ?_, p2.le (by omega), by omega⟩
  rw [callN_eq hT]
  generalize r1.v = v1 at *
  generalize r2.v = v2 at *
  simp -implicitDefEqProofs [runD, LTwoD, e1, e2, le_line]
/-! ### the tables of walks -/
structure WalkT (T : List Def) (nw na nna nm nmy nf nme : Nat) : Prop where
  w : T[nw]? = some WholeD
  as : T[na]? = some LAskD
  nam : T[nna]? = some LNamedD
  mv : T[nm]? = some (LMovedD nna na)
  my : T[nmy]? = some HowManyD
  fi : T[nf]? = some LFirstD
  me : T[nme]? = some (LMetD nf)
theorem WalkT.walk {nw na nna nm nmy nf nme : Nat} (W : WalkT T nw na nna nm nmy nf nme) (hD : T[nd]? = some Draw) (hT : T[n]? = some (LWalkD nd nm nmy nme)) {r1 r2 : Ru} (h1 : r1.ok) (h2 : r2.ok) (hp : Pen s i q) (hn : q + 200 < 1000000000000000000) {most : Int} (m0 : 0 ≤ most) (m1 : most ≤ 100) :
    ∃ ns s', callN T (k + 3) n [.loc i, r1.v, r2.v, .int most] s = .ok (.val (.tup (iV ns))) s' ∧ WalkOk r1 r2 (metT r1 r2) ns ∧ (ns.length : Int) ≤ most ∧ Pen s' i (q + 101) ∧ s'.length = s.length := by
  rw [callN_eq hT]
  have e1 := met (k := k) (s := s) W.fi W.me h1 h2
  obtain ⟨c, s1, e2, c0, c1, p1, l1⟩ := draw (k := k + 1) hD hp (by omega) (m := most + 1) (by omega) (by omega)
  have loop : ∃ ns y z s2, exS (callN T (k + 2)) (LWalkD_f0 nd nm nmy nme) [some (.val (.loc i)), some (.val r1.v), some (.val r2.v), some (.val (.int most)), some (.val (metT r1 r2).v), some (.val (.tup [])), none, none] s = .ok .next [some (.val (.loc i)), some (.val r1.v), some (.val r2.v), some (.val (.int most)), some (.val (goT r1 r2 (metT r1 r2) ns).v), some (.val (.tup (iV ns))), y, z] s2 ∧ WalkOk r1 r2 (metT r1 r2) ns ∧ (ns.length : Int) ≤ most ∧ Pen s2 i (q + 101) ∧ s2.length = s.length := by
    unfold LWalkD_f0
    rw [ex_for]
    have e : evI (callN T (k + 2)) (.rng .no (.call nd (.cons (.var 0) (.cons (.bin .add (.var 3) (.cst (.int 1))) .nil)))) [some (.val (.loc i)), some (.val r1.v), some (.val r2.v), some (.val (.int most)), some (.val (metT r1 r2).v), some (.val (.tup [])), none, none] s = .ok ((rngI 0 c).map .int) [some (.val (.loc i)), some (.val r1.v), some (.val r2.v), some (.val (.int most)), some (.val (metT r1 r2).v), some (.val (.tup [])), none, none] s1 := by
      simp -implicitDefEqProofs [e2, rng_small (n := c) (by omega) (by omega)]
    rw [e, bind_ok]
    obtain ⟨r', s', e4, ns, y, z, rfl, hl, hw, p3, ln3⟩ := for_ok (f := turnB (callN T (k + 2)) [6] (LWalkD_b0 nd nm nmy nme))
      (fun j r s' => ∃ ns y z, r = [some (.val (.loc i)), some (.val r1.v), some (.val r2.v), some (.val (.int most)), some (.val (goT r1 r2 (metT r1 r2) ns).v), some (.val (.tup (iV ns))), y, z] ∧ ns.length = j ∧ WalkOk r1 r2 (metT r1 r2) ns ∧ Pen s' i (q + 1 + j) ∧ s'.length = s.length)
      (xs := (rngI 0 c).map Val.int) (r := [some (.val (.loc i)), some (.val r1.v), some (.val r2.v), some (.val (.int most)), some (.val (metT r1 r2).v), some (.val (.tup [])), none, none]) (s := s1) ⟨[], none, none, rfl, rfl, trivial, by simpa using p1, l1⟩ (fun j x r s2 hx hI => by
        obtain ⟨ns, y, z, rfl, hl, hw, p3, ln3⟩ := hI
        have hj : j < c.toNat := by have := lt_of_get hx; rw [rngLen] at this; omega
        have ok := goOk h1 h2 (metOk h1 h2) hw
        have b := many_bd h1 ok
        have e5 := many (k := k + 1) (s := s2) h1 h2 W.my ok.toTwoOk
        obtain ⟨t, s3, e6, t0, t1, p4, l4⟩ := draw (k := k + 1) hD p3 (by omega) (m := manyT (goT r1 r2 (metT r1 r2) ns) + 1) (by omega) (by omega)
        have e7 := lmoved (k := k) (s := s3) W.nam W.as W.mv h1 h2 ok.toTwoOk t0 (by omega)
        have e8 : binop .add (.tup (iV ns)) (.tup [.int t]) = some (.val (.tup (iV (ns ++ [t])))) := by rw [tup_add (by simp; omega)]; unfold iV; rw [List.map_append]; rfl
        refine ⟨_, s3, ?_, ns ++ [t], some (.val x), some (.val (.int t)), rfl, by simp [hl], walk_snoc.mpr ⟨hw, t0, by omega⟩, p4.le (by omega), by omega⟩
        rw [go_snoc]
        generalize r1.v = v1 at *
        generalize r2.v = v2 at *
        generalize moveT r1 r2 (goT r1 r2 (metT r1 r2) ns) t = mv at *
        generalize manyT (goT r1 r2 (metT r1 r2) ns) = my at *
        generalize (goT r1 r2 (metT r1 r2) ns).v = gv at *
        simp -implicitDefEqProofs [turnB, LWalkD_b0, e5, e6, e7, e8, mvV, le_line])
    rw [e4]
    rw [rngLen] at hl p3
    exact ⟨ns, y, z, s', rfl, hw, by omega, p3.le (by omega), ln3⟩
  obtain ⟨ns, y, z, s2, e3, hw, hl, p3, ln3⟩ := loop
  refine ⟨ns, s2, ?_, hw, hl, p3, ln3⟩
  generalize r1.v = v1 at *
  generalize r2.v = v2 at *
  generalize (goT r1 r2 (metT r1 r2) ns).v = gv at *
  generalize (metT r1 r2).v = mv at *
  simp -implicitDefEqProofs [runD, LWalkD, e1, le_line, e3]
theorem WalkT.trail_for {nw na nna nm nmy nf nme : Nat} (W : WalkT T nw na nna nm nmy nf nme) {r1 r2 : Ru} (h1 : r1.ok) (h2 : r2.ok) {nums : Option Slot} : ∀ {ns : List Int} {p : Pa} {found : List Val} {y : Option Slot}, PaOk r1 r2 p → WalkOk r1 r2 p ns → found.length + ns.length ≤ 1000 → ∃ y', forLoop (turnB (callN T (k + 2)) [5] (LTrailD_b0 nm nw nmy)) (iV ns) [some (.val r1.v), some (.val r2.v), some (.val p.v), nums, some (.own found), y] s = .ok .next [some (.val r1.v), some (.val r2.v), some (.val (goT r1 r2 p ns).v), nums, some (.own (found ++ (trailT r1 r2 p ns).map mvV)), y'] s
  | [], p, found, y, _, _, _ => ⟨y, by show forLoop _ [] _ _ = _; rw [forLoop]; simp [trailT, goT]⟩
  | t :: ns, p, found, y, hp, hw, hl => by
    simp only [List.length_cons] at hl
    have b := many_bd h1 hp
    have t01 := hw.1
    obtain ⟨y', e⟩ := WalkT.trail_for W h1 h2 (nums := nums) (ns := ns) (p := (moveT r1 r2 p t).2.2) (found := found ++ [mvV (moveT r1 r2 p t)]) (y := some (.val (.int t))) (moveOk h1 h2 hp.toTwoOk (by omega) (by omega)) hw.2 (by simp; omega)
    refine ⟨y', ?_⟩
    show forLoop _ (.int t :: iV ns) _ _ = _
    rw [forLoop, goT, trailT, List.map_cons]
    have ea : found ++ mvV (moveT r1 r2 p t) :: (trailT r1 r2 (moveT r1 r2 p t).2.2 ns).map mvV = found ++ [mvV (moveT r1 r2 p t)] ++ (trailT r1 r2 (moveT r1 r2 p t).2.2 ns).map mvV := by simp
    rw [ea, ← e]
    have e3 := many (k := k + 1) (s := s) h1 h2 W.my hp.toTwoOk
    have e4 := whole (k := k + 1) (s := s) (lo := 0) (hi := manyT p) W.w (v := .int t) (fine_i (by omega) (by omega))
    have w : isW 0 (manyT p) (.int t) = true := by simp [isW, t01]
    rw [w] at e4
    have e5 := lmoved (k := k) (s := s) W.nam W.as W.mv h1 h2 hp.toTwoOk t01.1 (by omega)
    have hz : found.length < sizeLine := Nat.lt_of_lt_of_le (show found.length < 1001 by omega) (by rw [sizeLine_eq]; omega)
    clear e ea
    generalize r1.v = v1 at *
    generalize r2.v = v2 at *
    have al := at_last (xs := found) (v := mvV (moveT r1 r2 p t))
    have av : (match mvV (moveT r1 r2 p t) with | .tup xs => atI xs 2 | _ => none) = some (moveT r1 r2 p t).2.2.v := rfl
    generalize hmv : moveT r1 r2 p t = mv at *
    generalize manyT p = my at *
    generalize p.v = pv at *
    have e7 : turnB (callN T (k + 2)) [5] (LTrailD_b0 nm nw nmy) (.int t) [some (.val v1), some (.val v2), some (.val pv), nums, some (.own found), y] s = .ok .next [some (.val v1), some (.val v2), some (.val mv.2.2.v), nums, some (.own (found ++ [mvV mv])), some (.val (.int t))] s := by
      simp -implicitDefEqProofs [turnB, LTrailD_b0, e3, e4, e5, hz, al]
      simp -implicitDefEqProofs [mvV]
    rw [e7, bind_ok]
theorem WalkT.trail {nw na nna nm nmy nf nme : Nat} (W : WalkT T nw na nna nm nmy nf nme) (hT : T[n]? = some (LTrailD nm nw nmy)) {r1 r2 : Ru} (h1 : r1.ok) (h2 : r2.ok) {p : Pa} (hp : PaOk r1 r2 p) {ns : List Int} (hw : WalkOk r1 r2 p ns) (hl : ns.length ≤ 1000) :
    callN T (k + 3) n [r1.v, r2.v, p.v, .tup (iV ns)] s = .ok (.fr ((trailT r1 r2 p ns).map mvV)) s := by
  rw [callN_eq hT]
  obtain ⟨y, e⟩ := W.trail_for (k := k) (s := s) h1 h2 (nums := some (.val (.tup (iV ns)))) (found := []) (y := none) hp hw (by simpa using hl)
  have f : exS (callN T (k + 2)) (LTrailD_f0 nm nw nmy) [some (.val r1.v), some (.val r2.v), some (.val p.v), some (.val (.tup (iV ns))), some (.own []), none] s = .ok .next [some (.val r1.v), some (.val r2.v), some (.val (goT r1 r2 p ns).v), some (.val (.tup (iV ns))), some (.own ((trailT r1 r2 p ns).map mvV)), y] s := by
    unfold LTrailD_f0
    rw [ex_for]
    have e2 : evI (callN T (k + 2)) (.seq (.var 3)) [some (.val r1.v), some (.val r2.v), some (.val p.v), some (.val (.tup (iV ns))), some (.own []), none] s = .ok (iV ns) [some (.val r1.v), some (.val r2.v), some (.val p.v), some (.val (.tup (iV ns))), some (.own []), none] s := by simp -implicitDefEqProofs
    rw [e2, bind_ok, e]; rfl
  generalize r1.v = v1 at *
  generalize r2.v = v2 at *
  generalize (goT r1 r2 p ns).v = gv at *
  generalize p.v = pv at *
  simp -implicitDefEqProofs [runD, LTrailD, isiv, le_line, f]
theorem WalkT.led {nw na nna nm nmy nf nme nt : Nat} (W : WalkT T nw na nna nm nmy nf nme) (hT : T[nt]? = some (LTrailD nm nw nmy)) (hL : T[n]? = some (LLedD nme nt)) {r1 r2 : Ru} (h1 : r1.ok) (h2 : r2.ok) {ns : List Int} (hw : WalkOk r1 r2 (metT r1 r2) ns) (hl : ns.length ≤ 1000) :
    callN T (k + 4) n [r1.v, r2.v, .tup (iV ns)] s = .ok (.val (goT r1 r2 (metT r1 r2) ns).v) s := by
  rw [callN_eq hL]
  have e1 := met (k := k + 1) (s := s) W.fi W.me h1 h2
  have e2 := W.trail (k := k) (s := s) hT h1 h2 (metOk h1 h2) hw hl
  rcases List.eq_nil_or_concat ns with rfl | ⟨ms, t, rfl⟩
  · rw [trailT] at e2
    rw [goT]
    generalize r1.v = v1 at *
    generalize r2.v = v2 at *
    generalize (metT r1 r2).v = mv at *
    simp -implicitDefEqProofs [runD, LLedD, e1, e2, cmpop, le_line]
  · rw [List.concat_eq_append] at *
    rw [trail_snoc, List.map_append, List.map_cons, List.map_nil] at e2
    rw [go_snoc]
    have al := at_last (xs := (trailT r1 r2 (metT r1 r2) ms).map mvV) (v := mvV (moveT r1 r2 (goT r1 r2 (metT r1 r2) ms) t))
    generalize r1.v = v1 at *
    generalize r2.v = v2 at *
    generalize (metT r1 r2).v = mv at *
    generalize moveT r1 r2 (goT r1 r2 (metT r1 r2) ms) t = m at *
    generalize (trailT r1 r2 (metT r1 r2) ms).map mvV = xs at *
    have ne : (xs ++ [mvV m]).isEmpty = false := by simp
    generalize xs ++ [mvV m] = z at *
    rw [mvV] at al
    simp -implicitDefEqProofs [runD, LLedD, e1, e2, cmpop, al, ne, le_line]
end
end Gz
/-! Any arrangement; the law's head where it is one try. -/
namespace Gz
open PySem L2
def eight : List Int := [0, 1, 2, 3, 4, 5, 6, 7]
section
variable {T : List Def} {k n nd nx nna i : Nat} {s : Sto} {q : Int}
theorem anyTurn (hD : T[nd]? = some Draw) (hX : T[nx]? = some (MixD nd)) {r : Ru} (hr : r.ok) (hp : Pen s i q) (hn : q + 100 < 1000000000000000000) {v1 v2 y4 y5 y6 y7 : Option Slot} {st : List Val} (hst : st.length ≤ 1000) :
    ∃ row lab y5' s', turnB (callN T (k + 2)) [4] (LAnyPairD_b1 nna nd nx) r.v [some (.val (.loc i)), v1, v2, some (.own st), y4, y5, y6, y7] s = .ok .next [some (.val (.loc i)), v1, v2, some (.own (st ++ [sV row lab])), some (.val r.v), y5', some (.val (.tup (iV row))), none] s' ∧ StOk r row lab ∧ Pen s' i (q + 20) ∧ s'.length = s.length := by
  have p1 := hr.p1
  have p4 := hr.p4
  have l1 := hr.l1
  have l16 := hr.l16
  obtain ⟨ys, s1, e1, pm, q1, ln1⟩ := mixed (k := k) (v := .lst (iV eight)) (.inl rfl) hX hD hp (by show q + (8 : Nat) < _; omega) (by decide)
  obtain ⟨ms, rfl, pm2⟩ := iV_perm pm
  clear pm
  have pm := pm2
  have q1 : Pen s1 i (q + 8) := q1
  have c1 : cut (iV ms) none (some (r.p : Int)) = (iV ms).take r.p := cut_hi _ _
  have tk : (iV ms).take r.p = iV (ms.take r.p) := by unfold iV; rw [List.map_take]
  have mlen : ms.length = 8 := by rw [pm.length_eq]; rfl
  have tlen : (ms.take r.p).length = r.p := by rw [List.length_take]; omega
  have loop : ∃ ws s3, evE (callN T (k + 2)) (LAnyPairD_l0 nna nd nx) [some (.val (.loc i)), v1, v2, some (.own st), some (.val r.v), some (.own (iV (ms.take r.p))), y6, y7] s1 = .ok (.fr (iV ws)) [some (.val (.loc i)), v1, v2, some (.own st), some (.val r.v), some (.val (.lst (iV (ms.take r.p)))), y6, none] s3 ∧ Blk (ms.take r.p) ws ∧ Pen s3 i (q + 14) ∧ s3.length = s1.length := by
    unfold LAnyPairD_l0
    rw [ev_lc]
    generalize r.v = rv at *
    have e : evI (callN T (k + 2)) (.seq (.var 5)) [some (.val (.loc i)), v1, v2, some (.own st), some (.val rv), some (.own (iV (ms.take r.p))), y6, y7] s1 = .ok (iV (ms.take r.p)) [some (.val (.loc i)), v1, v2, some (.own st), some (.val rv), some (.val (.lst (iV (ms.take r.p)))), y6, y7] s1 := by simp -implicitDefEqProofs
    rw [e, bind_ok]
    generalize hts : ms.take r.p = ts at *
    obtain ⟨acc, r', s3, e3, ws, rfl, rfl, bk, q3, ln3⟩ := lc_ok (f := turnF (callN T (k + 2)) [7] .no (.ite (.cmp .gt (.call nd (.cons (.var 0) (.cons (.cst (.int 4)) .nil))) (.cst (.int 0))) (.var 7) (.neg (.cst (.int 1)))))
      (fun j acc r' s' => ∃ ws, acc = iV ws ∧ r' = [some (.val (.loc i)), v1, v2, some (.own st), some (.val rv), some (.val (.lst (iV ts))), y6, none] ∧ Blk (ts.take j) ws ∧ Pen s' i (q + 8 + j) ∧ s'.length = s1.length)
      (xs := iV ts) (r := wipeR [some (.val (.loc i)), v1, v2, some (.own st), some (.val rv), some (.val (.lst (iV ts))), y6, y7] [7]) (s := s1) ⟨[], rfl, rfl, trivial, by simpa using q1, rfl⟩ (by rw [iV_len, tlen]; exact le_line (by omega)) (fun j x acc r' s' hx hI => by
        obtain ⟨ws, rfl, rfl, bk, q3, ln3⟩ := hI
        have hj : j < ts.length := by have := lt_of_get hx; simpa using this
        have hx' : x = .int ts[j] := by
          unfold iV at hx
          rw [List.getElem?_map, List.getElem?_eq_getElem hj] at hx
          exact (Option.some.inj hx).symm
        subst hx'
        have tj : ts.take (j + 1) = ts.take j ++ [ts[j]] := (List.take_append_getElem hj).symm
        obtain ⟨d, s4, e4, d1, d2, q4, ln4⟩ := draw (k := k + 1) hD q3 (by omega) (m := 4) (by decide) (by decide)
        by_cases hd : 0 < d
        · refine ⟨some (.int ts[j]), [some (.val (.loc i)), v1, v2, some (.own st), some (.val rv), some (.val (.lst (iV ts))), y6, none], s4, ?_, ws ++ [ts[j]], by simp [addO, iV], rfl, by rw [tj]; exact bk.snoc (.inl rfl), q4.le (by omega), by omega⟩
          simp -implicitDefEqProofs [turnF, e4, hd]
        · refine ⟨some (.int (-1)), [some (.val (.loc i)), v1, v2, some (.own st), some (.val rv), some (.val (.lst (iV ts))), y6, none], s4, ?_, ws ++ [-1], by simp [addO, iV], rfl, by rw [tj]; exact bk.snoc (.inr rfl), q4.le (by omega), by omega⟩
          simp -implicitDefEqProofs [turnF, e4, hd])
    rw [e3]
    rw [iV_len, tlen] at q3 bk
    rw [List.take_of_length_le (by omega)] at bk
    exact ⟨ws, s3, by simp, bk, q3.le (by omega), ln3⟩
  obtain ⟨ws, s3, e3, bk, q3, ln3⟩ := loop
  obtain ⟨lab, s4, e4, d1, d2, q4, ln4⟩ := draw (k := k + 1) hD q3 (by omega) (m := (r.rows.length : Int)) (by omega) (by omega)
  obtain ⟨lb, rfl⟩ : ∃ lb : Nat, lab = lb := ⟨lab.toNat, by omega⟩
  refine ⟨ws, lb, some (.val (.lst (iV (ms.take r.p)))), s4, ?_, ⟨by rw [bk.len, tlen], fun x hx => ?_, fun x hx hn => ?_, by omega⟩, q4.le (by omega), by omega⟩
  · have hz : st.length < sizeLine := Nat.lt_of_lt_of_le (show st.length < 1001 by omega) (by rw [sizeLine_eq]; omega)
    have e1' : callN T (k + 2) nx [.loc i, .lst [.int 0, .int 1, .int 2, .int 3, .int 4, .int 5, .int 6, .int 7]] s = .ok (.fr (iV ms)) s1 := e1
    have at0 : atI [Val.int r.p, .tup (r.rows.map Lr.v)] 0 = some (.int r.p) := rfl
    have b : turnB (callN T (k + 2)) [4] (LAnyPairD_b1 nna nd nx) r.v [some (.val (.loc i)), v1, v2, some (.own st), y4, y5, y6, y7] s = .ok .next [some (.val (.loc i)), v1, v2, some (.own (st ++ [sV ws lb])), some (.val r.v), some (.val (.lst (iV (ms.take r.p)))), some (.val (.tup (iV ws))), none] s4 := by
      rw [Ru.v] at *
      simp -implicitDefEqProofs [turnB, LAnyPairD_b1, e1', le_line, c1, tk, e3, e4, sV, hz]
    exact b
  · rcases bk.mem x hx with rfl | h
    · omega
    · have := pm.mem_iff.mp (List.mem_of_mem_take h)
      revert this
      have : ∀ y ∈ eight, -1 ≤ y ∧ y ≤ 99 := by decide
      exact this x
  · have c := bk.count x hn
    have c2 : (ms.take r.p).count x ≤ ms.count x := (List.take_sublist _ _).count_le _
    have c3 : ms.count x ≤ 1 := by
      rw [pm.count_eq]
      exact List.nodup_iff_count.mp (by decide) x
    have c4 : 0 < ws.count x := List.count_pos_iff.mpr hx
    omega
theorem anyPair (hD : T[nd]? = some Draw) (hX : T[nx]? = some (MixD nd)) (hNa : T[nna]? = some LNamedD) (hA : T[n]? = some (LAnyPairD nna nd nx)) {r1 r2 : Ru} (h1 : r1.ok) (h2 : r2.ok) (hp : Pen s i q) (hn : q + 200 < 1000000000000000000) :
    ∃ (p : Pa) (s' : Sto), callN T (k + 3) n [.loc i, r1.v, r2.v] s = .ok (.val p.v) s' ∧ PaOk r1 r2 p ∧ Pen s' i (q + 40) ∧ s'.length = s.length := by
  obtain ⟨ra, la, y5, s1, e1, o1, p1, ln1⟩ := anyTurn (k := k) (nna := nna) hD hX h1 hp (by omega) (v1 := some (.val r1.v)) (v2 := some (.val r2.v)) (y4 := none) (y5 := none) (y6 := none) (y7 := none) (st := []) (by simp)
  obtain ⟨rb, lb, y5', s2, e2, o2, p2, ln2⟩ := anyTurn (k := k) (nna := nna) hD hX h2 p1 (by omega) (v1 := some (.val r1.v)) (v2 := some (.val r2.v)) (y4 := some (.val r1.v)) (y5 := y5) (y6 := some (.val (.tup (iV ra)))) (y7 := none) (st := [] ++ [sV ra la]) (by simp)
  have tw : TwoOk r1 r2 ⟨ra, la, rb, lb⟩ := ⟨o1, o2⟩
  refine ⟨nameT ⟨ra, la, rb, lb⟩, s2, ?_, nameOk h1 h2 tw, p2.le (by omega), by omega⟩
  rw [callN_eq hA]
  have e3 := lnamed (k := k + 1) (s := s2) hNa (p := ⟨ra, la, rb, lb⟩) (by have := tw.len h1 h2; omega)
  have f : exS (callN T (k + 2)) (LAnyPairD_f1 nna nd nx) [some (.val (.loc i)), some (.val r1.v), some (.val r2.v), some (.own []), none, none, none, none] s = .ok .next [some (.val (.loc i)), some (.val r1.v), some (.val r2.v), some (.own ([] ++ [sV ra la] ++ [sV rb lb])), some (.val r2.v), y5', some (.val (.tup (iV rb))), none] s2 := by
    unfold LAnyPairD_f1
    rw [ex_for]
    have e : evI (callN T (k + 2)) (.seq (.tup (.cons (.var 1) (.cons (.var 2) .nil)))) [some (.val (.loc i)), some (.val r1.v), some (.val r2.v), some (.own []), none, none, none, none] s = .ok [r1.v, r2.v] [some (.val (.loc i)), some (.val r1.v), some (.val r2.v), some (.own []), none, none, none, none] s := by simp -implicitDefEqProofs [le_line]
    rw [e, bind_ok, forLoop, e1, bind_ok]
    show forLoop _ _ _ _ = _
    rw [forLoop, e2, bind_ok]
    show forLoop _ _ _ _ = _
    rw [forLoop]
  rw [Pa.v] at e3
  dsimp only at e3
  generalize r1.v = v1 at *
  generalize r2.v = v2 at *
  generalize (nameT _).v = nv at *
  generalize sV ra la = va at *
  generalize sV rb lb = vb at *
  simp -implicitDefEqProofs [runD, LAnyPairD, f, e3, le_line]
def TryD (m : Nat) (b : CSs) : Def := ⟨1, m + 1, (.cons (.try_ b) .nil)⟩
/-- the law's head where it is one try -/
theorem says_try {T : List Def} {k f m : Nat} {C : Int} {b : CSs} {ns : List Int} (hT : T[f]? = some (TryD m (.cons (OuterF C b) (.cons (.ret (.cst (.bl true))) .nil)))) (h1 : 1 ≤ C) (h2 : C ≤ 1000)
    (turn : ∀ (j : Nat) (xs : List (Option Slot)) (s : Sto), xs.length = m → ∃ ys s', turnB (callN T k) [1] b (.int j) (some (.val (.fz ns)) :: xs) s = .ok .next (some (.val (.fz ns)) :: ys) s' ∧ ys.length = m) : Says (callN T (k + 1)) f ns := by
  obtain ⟨r', s', e⟩ := outer h1 h2 turn [] (xs := List.replicate m none) (List.length_replicate ..)
  refine ⟨s', ?_⟩
  rw [callN_eq hT]
  unfold runD TryD
  have : m + 1 - 1 = m := by omega
  simp -implicitDefEqProofs [e, this]
end
end Gz
/-! generic defs (printed by gz.py --gen) -/
namespace Gz
open PySem L2
/-- _law_odd(_law_pen_here), slots 0=_law_pen_here 1=_law_some; calls c_law_pick -/
def OddS (c_law_pick : Nat) : Def := ⟨1, 2,
    (.cons (.asg 1 (.lst (.cons (.cst (.non)) (.cons (.cst (.bl true)) (.cons (.cst (.bl false)) (.cons (.neg (.cst (.int 1))) (.cons (.cst (.int 0)) (.cons (.cst (.int 1)) (.cons (.cst (.int 7)) (.cons (.bin .pow (.cst (.int 10)) (.cst (.int 12))) (.cons (.cst (.str "")) (.cons (.cst (.str "apart")) (.cons (.tup .nil) (.cons (.lst .nil) (.cons (.dct []) (.cons (.tup (.cons (.cst (.int 0)) .nil)) (.cons (.lst (.cons (.cst (.int 0)) .nil)) (.cons (.tup (.cons (.cst (.int 0)) (.cons (.cst (.int 0)) .nil))) (.cons (.tup (.cons (.tup (.cons (.cst (.int 0)) .nil)) .nil)) (.cons (.tup (.cons (.cst (.non)) .nil)) .nil))))))))))))))))))))
    (.cons (.ret (.call c_law_pick (.cons (.var 0) (.cons (.bin .add (.var 1) (.lst (.cons (.tup (.cons (.cst (.bl true)) .nil)) (.cons (.tup (.cons (.tup (.cons (.cst (.int 0)) (.cons (.cst (.int 0)) .nil))) (.cons (.cst (.int 0)) .nil))) (.cons (.cst (.str "most")) (.cons (.tup (.cons (.cst (.str "ever")) .nil)) .nil)))))) .nil))))
    .nil))⟩
/-- _law_bent(_law_pen_here, _law_thing, _law_deep), slots 0=_law_pen_here 1=_law_thing 2=_law_deep 3=_law_at 4=_law_way; calls c_law_bent c_law_draw c_law_odd c_law_pick -/
def BentS (c_law_bent c_law_draw c_law_odd c_law_pick : Nat) : Def := ⟨3, 5,
    (.cons (.ifs (.and (.isiV 1 "int") (.and (.not (.isiV 1 "bool")) (.cmp .gt (.call c_law_draw (.cons (.var 0) (.cons (.cst (.int 3)) .nil))) (.cst (.int 0)))))
    (.cons (.ret (.call c_law_pick (.cons (.var 0) (.cons (.lst (.cons (.bin .add (.var 1) (.cst (.int 1))) (.cons (.bin .sub (.var 1) (.cst (.int 1))) (.cons (.cmp .eq (.var 1) (.cst (.int 1))) (.cons (.bin .sub (.cst (.int 0)) (.var 1)) (.cons (.bin .add (.var 1) (.cst (.int 7))) .nil)))))) .nil))))
    .nil)
    .nil)
    (.cons (.ifs (.and (.isiV 1 "str") (.cmp .gt (.call c_law_draw (.cons (.var 0) (.cons (.cst (.int 3)) .nil))) (.cst (.int 0))))
    (.cons (.ret (.call c_law_pick (.cons (.var 0) (.cons (.lst (.cons (.cst (.str "nested")) (.cons (.cst (.str "apart")) (.cons (.cst (.str "most")) (.cons (.cst (.str "ever")) (.cons (.cst (.str "ratio")) (.cons (.cst (.str "alike")) (.cons (.upp (.var 1)) (.cons (.cst (.str "")) .nil))))))))) .nil))))
    .nil)
    .nil)
    (.cons (.ifs (.or (.not (.isiV 1 "tuple")) (.or (.cmp .eq (.var 1) (.tup .nil)) (.cmp .eq (.var 2) (.cst (.int 0)))))
    (.cons (.ret (.call c_law_odd (.cons (.var 0) .nil)))
    .nil)
    .nil)
    (.cons (.par [3, 4] (.cons (.call c_law_draw (.cons (.var 0) (.cons (.bltV .len 1) .nil))) (.cons (.call c_law_draw (.cons (.var 0) (.cons (.cst (.int 9)) .nil))) .nil)))
    (.cons (.ifs (.cmp .lt (.var 4) (.cst (.int 4)))
    (.cons (.ret (.idx (.lst (.cons (.bin .add (.slc (.var 1) .no (.so (.var 3))) (.slc (.var 1) (.so (.bin .add (.var 3) (.cst (.int 1)))) .no)) (.cons (.bin .add (.slc (.var 1) .no (.so (.bin .add (.var 3) (.cst (.int 1))))) (.slc (.var 1) (.so (.var 3)) .no)) (.cons (.rev (.var 1)) (.cons (.bltV .list 1) .nil))))) (.var 4)))
    .nil)
    .nil)
    (.cons (.ret (.bin .add (.bin .add (.slc (.var 1) .no (.so (.var 3))) (.tup (.cons (.call c_law_bent (.cons (.var 0) (.cons (.idxV 1 (.var 3)) (.cons (.bin .sub (.var 2) (.cst (.int 1))) .nil)))) .nil))) (.slc (.var 1) (.so (.bin .add (.var 3) (.cst (.int 1)))) .no)))
    .nil))))))⟩
def LRenD_l0 (c_law_mixed : Nat) : CE := .lc (.seq (.var 3)) [5] .no (.ite (.cmp .ne (.var 5) (.neg (.cst (.int 1)))) (.idxV 2 (.var 5)) (.neg (.cst (.int 1))))
def LRenD_l1 (c_law_mixed : Nat) : CE := .lc (.seq (.var 1)) [3, 4] .no (.tup (.cons (.blt .tuple (.cons (LRenD_l0 c_law_mixed) .nil)) (.cons (.var 4) .nil)))
/-- _law_renamed(_law_pen_here, _law_pair), slots 0=_law_pen_here 1=_law_pair 2=_law_names 3=_law_row 4=_law_label 5=_law_one; calls c_law_mixed -/
def LRenD (c_law_mixed : Nat) : Def := ⟨2, 6,
    (.cons (.asg 2 (.call c_law_mixed (.cons (.var 0) (.cons (.lst (.cons (.cst (.int 0)) (.cons (.cst (.int 1)) (.cons (.cst (.int 2)) (.cons (.cst (.int 3)) (.cons (.cst (.int 4)) (.cons (.cst (.int 5)) (.cons (.cst (.int 6)) (.cons (.cst (.int 7)) (.cons (.cst (.int 8)) (.cons (.cst (.int 99)) .nil))))))))))) .nil))))
    (.cons (.ret (.blt .tuple (.cons (LRenD_l1 c_law_mixed) .nil)))
    .nil))⟩
def LIsStD_l0 (c_law_whole : Nat) : CE := .lc (.seq (.var 2)) [4] (.so (.cmp .ne (.var 4) (.neg (.cst (.int 1))))) (.var 4)
def LIsStD_l1 (c_law_whole : Nat) : CE := .lc (.seq (.var 2)) [4] .no (.call c_law_whole (.cons (.var 4) (.cons (.neg (.cst (.int 1))) (.cons (.cst (.int 99)) .nil))))
/-- _law_is_state(_law_rule_here, _law_thing), slots 0=_law_rule_here 1=_law_thing 2=_law_row 3=_law_there 4=_law_one; calls c_law_whole -/
def LIsStD (c_law_whole : Nat) : Def := ⟨2, 5,
    (.cons (.ifs (.or (.not (.isiV 1 "tuple")) (.or (.cmp .ne (.bltV .len 1) (.cst (.int 2))) (.not (.call c_law_whole (.cons (.idxV 1 (.cst (.int 1))) (.cons (.cst (.int 0)) (.cons (.bin .sub (.blt .len (.cons (.idxV 0 (.cst (.int 1))) .nil)) (.cst (.int 1))) .nil)))))))
    (.cons (.ret (.cst (.bl false)))
    .nil)
    .nil)
    (.cons (.asg 2 (.idxV 1 (.cst (.int 0))))
    (.cons (.ifs (.or (.not (.isiV 2 "tuple")) (.or (.cmp .ne (.bltV .len 2) (.idxV 0 (.cst (.int 0)))) (.not (.blt .all (.cons (LIsStD_l1 c_law_whole) .nil)))))
    (.cons (.ret (.cst (.bl false)))
    .nil)
    .nil)
    (.cons (.asg 3 (LIsStD_l0 c_law_whole))
    (.cons (.ret (.cmp .eq (.lenSet (.var 3)) (.bltV .len 3)))
    .nil)))))⟩
/-- _law_is_pair(_law_one, _law_other, _law_thing), slots 0=_law_one 1=_law_other 2=_law_thing; calls c_law_named c_law_is_state -/
def LIsPairD (c_law_named c_law_is_state : Nat) : Def := ⟨3, 3,
    (.cons (.ifs (.or (.not (.isiV 2 "tuple")) (.cmp .ne (.bltV .len 2) (.cst (.int 2))))
    (.cons (.ret (.cst (.bl false)))
    .nil)
    .nil)
    (.cons (.ifs (.or (.not (.call c_law_is_state (.cons (.var 0) (.cons (.idxV 2 (.cst (.int 0))) .nil)))) (.not (.call c_law_is_state (.cons (.var 1) (.cons (.idxV 2 (.cst (.int 1))) .nil)))))
    (.cons (.ret (.cst (.bl false)))
    .nil)
    .nil)
    (.cons (.ret (.cmp .eq (.call c_law_named (.cons (.var 2) .nil)) (.var 2)))
    .nil)))⟩
/-- start(one, other), slots 0=one 1=other; calls c_first_pair c_need_rules -/
def StartD (c_first_pair c_need_rules : Nat) : Def := ⟨2, 2,
    (.cons (.exp (.call c_need_rules (.cons (.var 0) (.cons (.var 1) .nil))))
    (.cons (.ret (.call c_first_pair (.cons (.var 0) (.cons (.var 1) .nil))))
    .nil))⟩
/-- is_arrangement(one, other, thing), slots 0=one 1=other 2=thing; calls c_is_pair c_need_rules -/
def IsArrD (c_is_pair c_need_rules : Nat) : Def := ⟨3, 3,
    (.cons (.exp (.call c_need_rules (.cons (.var 0) (.cons (.var 1) .nil))))
    (.cons (.ret (.call c_is_pair (.cons (.var 0) (.cons (.var 1) (.cons (.var 2) .nil)))))
    .nil))⟩
end Gz
/-! odd values, and bent ones, with words -/
namespace Gz
open PySem L2
def words : List Str := ["", "nested", "apart", "most", "ever", "ratio", "alike", "NESTED", "APART", "MOST", "EVER", "RATIO", "ALIKE"]
mutual
def okV (N : Int) : Val → Bool
  | .non => true
  | .bl _ => true
  | .int i => decide (-N ≤ i ∧ i ≤ N)
  | .str x => words.contains x
  | .tup xs => okVs N xs
  | .lst xs => okVs N xs
  | .dct kvs => kvs.isEmpty
  | _ => false
def okVs (N : Int) : List Val → Bool
  | [] => true
  | x :: xs => okV N x && okVs N xs
end
theorem okVs_iff {N : Int} : ∀ {xs : List Val}, okVs N xs = true ↔ ∀ x ∈ xs, okV N x = true
  | [] => by simp [okVs]
  | x :: xs => by simp [okVs, okVs_iff]
theorem fit_int {N i : Int} (hN : N ≤ 10 ^ 20) (h : -N ≤ i ∧ i ≤ N) : i.natAbs.log2 < 1920 := small_int (by omega) (by omega)
mutual
theorem okV_fine {N : Int} (hN : N ≤ 10 ^ 20) : ∀ {v : Val}, okV N v = true → fine v = true
  | .non, _ => rfl
  | .bl _, _ => rfl
  | .int i, h => by
    rw [okV, decide_eq_true_eq] at h
    rw [fine]
    exact decide_eq_true (fit_int hN h)
  | .str _, _ => rfl
  | .tup xs, h => by rw [okV] at h; rw [fine]; exact okVs_fine hN h
  | .lst xs, h => by rw [okV] at h; rw [fine]; exact okVs_fine hN h
  | .dct kvs, h => by
    rw [okV] at h
    cases kvs with
    | nil => rfl
    | cons => cases h
  | .fz _, h => by simp [okV] at h
  | .loc _, h => by simp [okV] at h
  | .fn _, h => by simp [okV] at h
theorem okVs_fine {N : Int} (hN : N ≤ 10 ^ 20) : ∀ {xs : List Val}, okVs N xs = true → fines xs = true
  | [], _ => rfl
  | x :: xs, h => by
    rw [okVs, Bool.and_eq_true] at h
    rw [fines, Bool.and_eq_true]
    exact ⟨okV_fine hN h.1, okVs_fine hN h.2⟩
end
mutual
theorem okV_mono {N M : Int} (hN : N ≤ M) : ∀ {v : Val}, okV N v = true → okV M v = true
  | .non, _ => rfl
  | .bl _, _ => rfl
  | .int i, h => by
    rw [okV, decide_eq_true_eq] at h ⊢
    omega
  | .str _, h => by rw [okV] at h ⊢; exact h
  | .tup xs, h => by rw [okV] at h ⊢; exact okVs_mono hN h
  | .lst xs, h => by rw [okV] at h ⊢; exact okVs_mono hN h
  | .dct kvs, h => by rw [okV] at h ⊢; exact h
  | .fz _, h => by simp [okV] at h
  | .loc _, h => by simp [okV] at h
  | .fn _, h => by simp [okV] at h
theorem okVs_mono {N M : Int} (hN : N ≤ M) : ∀ {xs : List Val}, okVs N xs = true → okVs M xs = true
  | [], _ => rfl
  | x :: xs, h => by
    rw [okVs, Bool.and_eq_true] at h ⊢
    exact ⟨okV_mono hN h.1, okVs_mono hN h.2⟩
end
theorem okVs_app {N : Int} {xs ys : List Val} : okVs N (xs ++ ys) = true ↔ okVs N xs = true ∧ okVs N ys = true := by
  rw [okVs_iff, okVs_iff, okVs_iff]
  constructor
  · exact fun h => ⟨fun x hx => h x (List.mem_append_left _ hx), fun x hx => h x (List.mem_append_right _ hx)⟩
  · rintro ⟨h1, h2⟩ x hx
    exact (List.mem_append.mp hx).elim (h1 x) (h2 x)
theorem okVs_sub {N : Int} {xs ys : List Val} (h : okVs N xs = true) (hs : ∀ y ∈ ys, y ∈ xs) : okVs N ys = true := okVs_iff.mpr fun y hy => okVs_iff.mp h y (hs y hy)
theorem words_ok : (words.all fun x => decide ((reprText x).length ≤ 20) && decide (x.length ≤ 20) && words.contains (Txt.upper x)) = true := by decide +kernel
theorem word_ok {x : Str} (h : words.contains x = true) : (reprText x).length ≤ 20 ∧ x.length ≤ 20 ∧ words.contains (Txt.upper x) = true := by
  have := List.all_eq_true.mp words_ok x (by simpa using h)
  simp only [Bool.and_eq_true, decide_eq_true_eq] at this
  exact ⟨this.1.1, this.1.2, this.2⟩
/-! ### odd values -/
def oddLS : List Val := [.non, .bl true, .bl false, .int (-1), .int 0, .int 1, .int 7, .int 1000000000000, .str "", .str "apart", .tup [], .lst [], .dct [], .tup [.int 0], .lst [.int 0], .tup [.int 0, .int 0], .tup [.tup [.int 0]], .tup [.non], .tup [.bl true], .tup [.tup [.int 0, .int 0], .int 0], .str "most", .tup [.str "ever"]]
theorem oddS_ok : (oddLS.all fun v => okV 1000000000000 v && decide (dp v ≤ 2) && decide (wt v ≤ 5800)) = true := by decide +kernel
theorem oddS_mem {v : Val} (h : v ∈ oddLS) : okV 1000000000000 v = true ∧ dp v ≤ 2 ∧ wt v ≤ 5800 := by
  have := List.all_eq_true.mp oddS_ok v h
  simp only [Bool.and_eq_true, decide_eq_true_eq] at this
  exact ⟨this.1.1, this.1.2, this.2⟩
section
variable {T : List Def} {nd np no nb : Nat}
theorem oddS (hD : T[nd]? = some Draw) (hP : T[np]? = some (PickD nd)) (hO : T[no]? = some (OddS np)) {k i : Nat} {s : Sto} {n : Int} (hp : Pen s i n) (hn : n < 1000000000000000000) : ∃ v s', callN T (k + 3) no [.loc i] s = .ok (.val v) s' ∧ okV 1000000000000 v = true ∧ dp v ≤ 2 ∧ wt v ≤ 5800 ∧ Pen s' i (n + 1) ∧ s'.length = s.length := by
  obtain ⟨v, s', e, hv, p, l⟩ := pick (k := k) hP hD hp hn (xs := oddLS) (by decide) (by decide)
  obtain ⟨h1, h2, h3⟩ := oddS_mem hv
  refine ⟨v, s', ?_, h1, h2, h3, p, l⟩
  rw [callN_eq hO]
  unfold oddLS at e
  have a1 : ∀ {xs ys : List Val}, xs.length + ys.length ≤ 100 → binop .add (.lst xs) (.lst ys) = some (.fr (xs ++ ys)) := fun h => b_addL (le_line (by omega))
  simp -implicitDefEqProofs [runD, OddS, le_line, pow12, a1, e]
def BentSOk (N : Int) (s : Sto) (i : Nat) (n : Int) (d : Nat) (v : Val) (r : Fr) : Prop := ∃ w s', r = .ok (.val w) s' ∧ okV (N + 7) w = true ∧ dp w ≤ max (dp v) (3 + d) ∧ wt w ≤ 2 * wt v + 6000 ∧ Pen s' i (n + 4 * (d + 1)) ∧ s'.length = s.length
/-- the values that a place may take -/
theorem bentSI (hD : T[nd]? = some Draw) (hP : T[np]? = some (PickD nd)) {k i : Nat} {s : Sto} {n x N : Int} (hN : 1000000000000 ≤ N) (hp : Pen s i n) (hn : n < 1000000000000000000) (h : -N ≤ x ∧ x ≤ N) : ∃ w s', callN T (k + 2) np [.loc i, .lst [.int (x + 1), .int (x - 1), .bl (x == 1), .int (0 - x), .int (x + 7)]] s = .ok (.val w) s' ∧ okV (N + 7) w = true ∧ dp w ≤ 0 ∧ wt w ≤ 1921 ∧ Pen s' i (n + 1) ∧ s'.length = s.length := by
  obtain ⟨v, s', e, hv, p, l⟩ := pick (k := k) hP hD hp hn (xs := [.int (x + 1), .int (x - 1), .bl (x == 1), .int (0 - x), .int (x + 7)]) (by simp) (by simp)
  have fi : ∀ z : Int, -(N + 7) ≤ z → z ≤ N + 7 → okV (N + 7) (.int z) = true ∧ dp (.int z) ≤ 0 ∧ wt (.int z) ≤ 1921 := fun z a b => ⟨by rw [okV]; exact decide_eq_true ⟨a, b⟩, Nat.le_refl _, Nat.le_refl _⟩
  have : okV (N + 7) v = true ∧ dp v ≤ 0 ∧ wt v ≤ 1921 := by
    simp only [List.mem_cons, List.not_mem_nil, or_false] at hv
    rcases hv with rfl | rfl | rfl | rfl | rfl
    · exact fi _ (by omega) (by omega)
    · exact fi _ (by omega) (by omega)
    · exact ⟨rfl, Nat.le_refl _, by rw [wt]; decide⟩
    · exact fi _ (by omega) (by omega)
    · exact fi _ (by omega) (by omega)
  exact ⟨v, s', e, this.1, this.2.1, this.2.2, p, l⟩
theorem bentSA (hD : T[nd]? = some Draw) (hP : T[np]? = some (PickD nd)) (hO : T[no]? = some (OddS np)) (hB : T[nb]? = some (BentS nb nd no np)) {k d i : Nat} {s : Sto} {n x N : Int} (hN : 1000000000000 ≤ N) (hp : Pen s i n) (hn : n + 10 < 1000000000000000000) (h : -N ≤ x ∧ x ≤ N) : BentSOk N s i n d (.int x) (callN T (k + 4) nb [.loc i, .int x, .int d] s) := by
  obtain ⟨q, s1, e1, q1, q2, p1, l1⟩ := draw (k := k + 2) hD hp (by omega) (m := 3) (by decide) (by decide)
  by_cases hq : 0 < q
  · obtain ⟨w, s', e, f1, f2, f3, p, l⟩ := bentSI hD hP (k := k + 1) hN p1 (by omega) h
    refine ⟨w, s', ?_, f1, by omega, by omega, p.le (by omega), by omega⟩
    rw [callN_eq hB]
    simp only [Int.zero_sub] at e
    simp -implicitDefEqProofs [runD, BentS, isiv, e1, hq, le_line, e]
  · obtain ⟨w, s', e, f1, f2, f3, p, l⟩ := oddS hD hP hO (k := k) p1 (by omega)
    refine ⟨w, s', ?_, okV_mono (by omega) f1, by omega, by omega, p.le (by omega), by omega⟩
    rw [callN_eq hB]
    simp -implicitDefEqProofs [runD, BentS, isiv, e1, hq, e]
theorem bentSW (hD : T[nd]? = some Draw) (hP : T[np]? = some (PickD nd)) (hO : T[no]? = some (OddS np)) (hB : T[nb]? = some (BentS nb nd no np)) {k d i : Nat} {s : Sto} {n N : Int} {x : Str} (hN : 1000000000000 ≤ N) (hp : Pen s i n) (hn : n + 10 < 1000000000000000000) (h : words.contains x = true) : BentSOk N s i n d (.str x) (callN T (k + 4) nb [.loc i, .str x, .int d] s) := by
  obtain ⟨q, s1, e1, q1, q2, p1, l1⟩ := draw (k := k + 2) hD hp (by omega) (m := 3) (by decide) (by decide)
  obtain ⟨h1, h2, h3⟩ := word_ok h
  by_cases hq : 0 < q
  · obtain ⟨v, s', e, hv, p, l⟩ := pick (k := k + 1) hP hD p1 (by omega) (xs := [.str "nested", .str "apart", .str "most", .str "ever", .str "ratio", .str "alike", .str (Txt.upper x), .str ""]) (by simp) (by simp)
    have wd : ∀ y : Str, words.contains y = true → okV (N + 7) (.str y) = true ∧ dp (.str y) ≤ 0 ∧ wt (.str y) ≤ 20 := fun y hy => ⟨by rw [okV]; exact hy, Nat.le_refl _, by rw [wt]; exact (word_ok hy).1⟩
    have : okV (N + 7) v = true ∧ dp v ≤ 0 ∧ wt v ≤ 20 := by
      simp only [List.mem_cons, List.not_mem_nil, or_false] at hv
      rcases hv with rfl | rfl | rfl | rfl | rfl | rfl | rfl | rfl
      · exact wd _ (by decide +kernel)
      · exact wd _ (by decide +kernel)
      · exact wd _ (by decide +kernel)
      · exact wd _ (by decide +kernel)
      · exact wd _ (by decide +kernel)
      · exact wd _ (by decide +kernel)
      · exact wd _ h3
      · exact wd _ (by decide +kernel)
    refine ⟨v, s', ?_, this.1, by omega, by omega, p.le (by omega), by omega⟩
    rw [callN_eq hB]
    have ul : x.length ≤ 5592405 := by omega
    simp -implicitDefEqProofs [runD, BentS, isiv, e1, hq, le_line, ul, e]
  · obtain ⟨w, s', e, f1, f2, f3, p, l⟩ := oddS hD hP hO (k := k) p1 (by omega)
    refine ⟨w, s', ?_, okV_mono (by omega) f1, by omega, by omega, p.le (by omega), by omega⟩
    rw [callN_eq hB]
    simp -implicitDefEqProofs [runD, BentS, isiv, e1, hq, e]
/-- no int, no text, no tuple or no depth -/
theorem bentSB (hD : T[nd]? = some Draw) (hP : T[np]? = some (PickD nd)) (hO : T[no]? = some (OddS np)) (hB : T[nb]? = some (BentS nb nd no np)) {k d i : Nat} {s : Sto} {n N : Int} {v : Val} (hN : 1000000000000 ≤ N) (hp : Pen s i n) (hn : n + 10 < 1000000000000000000) (hv : okV N v = true) (h1 : ∀ x, v ≠ .int x) (h2 : ∀ x, v ≠ .str x) (ht : (∀ xs, v ≠ .tup xs) ∨ v = .tup [] ∨ d = 0) : BentSOk N s i n d v (callN T (k + 4) nb [.loc i, v, .int d] s) := by
  obtain ⟨w, s', e, f1, f2, f3, p, l⟩ := oddS hD hP hO (k := k) hp (by omega)
  refine ⟨w, s', ?_, okV_mono (by omega) f1, by omega, by omega, p.le (by omega), by omega⟩
  rw [callN_eq hB]
  cases v with
  | int x => exact absurd rfl (h1 x)
  | str x => exact absurd rfl (h2 x)
  | tup xs =>
    cases xs with
    | nil => simp -implicitDefEqProofs [runD, BentS, isiv, e]
    | cons x r =>
      have d0 : d = 0 := by
        rcases ht with h | h | h
        · exact absurd rfl (h _)
        · cases h
        · exact h
      subst d0
      simp -implicitDefEqProofs [runD, BentS, isiv, e]
  | fz => simp [okV] at hv
  | loc => simp [okV] at hv
  | fn => simp [okV] at hv
  | _ => simp -implicitDefEqProofs [runD, BentS, isiv, e]
theorem putS_ok {N : Int} {xs ys : List Val} {a b : Nat} (hx : okVs N xs = true) (hy : okVs N ys = true) : okV N (.tup (xs.take a ++ ys ++ xs.drop b)) = true := by
  rw [okV, okVs_app, okVs_app]
  exact ⟨⟨okVs_sub hx fun y h => List.mem_of_mem_take h, hy⟩, okVs_sub hx fun y h => List.mem_of_mem_drop h⟩
theorem bentSC (hD : T[nd]? = some Draw) (hP : T[np]? = some (PickD nd)) (hO : T[no]? = some (OddS np)) (hB : T[nb]? = some (BentS nb nd no np)) {k d i : Nat} {s : Sto} {n N : Int} {x : Val} {r : List Val} (hN : 1000000000000 ≤ N) (hN2 : N + 7 ≤ 10 ^ 20) (hp : Pen s i n) (hn : n + 4 * (d + 2) + 10 < 1000000000000000000) (hv : okVs N (x :: r) = true) (hw : wts (x :: r) ≤ 4000000)
    (ih : ∀ {s : Sto} {n : Int} {v : Val}, Pen s i n → n + 4 * (d + 1) + 10 < 1000000000000000000 → okV N v = true → wt v ≤ 4000000 → BentSOk N s i n d v (callN T (k + 4) nb [.loc i, v, .int d] s)) :
    BentSOk N s i n (d + 1) (.tup (x :: r)) (callN T (k + 5) nb [.loc i, .tup (x :: r), .int ((d : Int) + 1)] s) := by
  have hl := len_wts (x :: r)
  have hl0 : 0 < (x :: r).length := by simp
  have hf := okVs_fine (by omega) hv
  generalize hxs : x :: r = xs at *
  obtain ⟨q, s1, e1, q1, q2, p1, l1⟩ := draw (k := k + 3) hD hp (by omega) (m := xs.length) (by omega) (by omega)
  obtain ⟨y, s2, e2, y1, y2, p2, l2⟩ := draw (k := k + 3) hD p1 (by omega) (m := 9) (by decide) (by decide)
  obtain ⟨a, rfl⟩ := toNat_of q1
  have ha : a < xs.length := by omega
  have ne : xs.isEmpty = false := by subst hxs; rfl
  have nd : ¬ ((d : Int) + 1 = 0) := by omega
  have at1 : atI xs (a : Int) = some xs[a] := atI_nat (List.getElem?_eq_getElem ha)
  have ad : ∀ {us ws : List Val}, us.length + ws.length ≤ 5000000 → binop .add (.tup us) (.tup ws) = some (.val (.tup (us ++ ws))) := fun h => b_addT (le_line2 (by omega))
  have lt : (xs.take a).length = a := by rw [List.length_take]; omega
  have lt1 : (xs.take (a + 1)).length = a + 1 := by rw [List.length_take]; omega
  have ld : (xs.drop a).length = xs.length - a := List.length_drop
  have ld1 : (xs.drop (a + 1)).length = xs.length - (a + 1) := List.length_drop
  have dx : dps xs + 1 = dp (.tup xs) := by rw [dp]
  have wx : wts xs + 3 = wt (.tup xs) := by rw [wt]
  have wa := wt_mem (List.getElem_mem ha)
  have da := dps_le.mp (Nat.le_refl (dps xs)) _ (List.getElem_mem ha)
  by_cases c4 : y < 4
  · have b1 := ad (us := xs.take a) (ws := xs.drop (a + 1)) (by rw [lt, ld1]; omega)
    have b2 := ad (us := xs.take (a + 1)) (ws := xs.drop a) (by rw [lt1, ld]; omega)
    have ch : cut xs none (some ((a : Int) + 1)) = xs.take (a + 1) := by
      have := cut_hi xs (a + 1)
      simpa using this
    have g0 := put_ok (xs := xs) (ys := []) (a := a) (b := a + 1) (by omega) hf rfl
    have k0 := putS_ok (N := N) (xs := xs) (ys := []) (a := a) (b := a + 1) hv rfl
    rw [List.append_nil] at g0 k0
    have t1 : xs.take (a + 1) ++ xs.drop a = xs.take a ++ [xs[a]] ++ xs.drop a := by rw [List.take_append_getElem]
    have g1 := put_ok (xs := xs) (ys := [xs[a]]) (a := a) (b := a) (Nat.le_refl _) hf (by simp [fines]; exact fines_iff.mp hf _ (List.getElem_mem ha))
    have k1 := putS_ok (N := N) (xs := xs) (ys := [xs[a]]) (a := a) (b := a) hv (by simp [okVs]; exact okVs_iff.mp hv _ (List.getElem_mem ha))
    rw [← t1] at g1 k1
    obtain ⟨w, ew, okw, dw, ww⟩ : ∃ w, atI [Val.tup (xs.take a ++ xs.drop (a + 1)), .tup (xs.take (a + 1) ++ xs.drop a), .tup xs.reverse, .lst xs] y = some w ∧ okV N w = true ∧ dp w ≤ dps xs + 1 ∧ wt w ≤ 2 * wts xs + 6 := by
      have : y = 0 ∨ y = 1 ∨ y = 2 ∨ y = 3 := by omega
      rcases this with rfl | rfl | rfl | rfl
      · refine ⟨_, rfl, k0, g0.2.1 (dps xs) (Nat.le_refl _) (Nat.zero_le _), Nat.le_trans g0.2.2 (by simp [wts]; omega)⟩
      · refine ⟨_, rfl, k1, g1.2.1 (dps xs) (Nat.le_refl _) (by simp [dps]; omega), Nat.le_trans g1.2.2 (by simp [wts]; omega)⟩
      · refine ⟨_, rfl, by rw [okV]; exact okVs_sub hv fun y h => List.mem_reverse.mp h, ?_, by rw [wt, wts_reverse]; omega⟩
        rw [dp]
        have := dps_sub (Nat.le_refl (dps xs)) fun y (h : y ∈ xs.reverse) => List.mem_reverse.mp h
        omega
      · exact ⟨_, rfl, by rw [okV]; exact hv, by rw [dp]; omega, by rw [wt]; omega⟩
    refine ⟨w, s2, ?_, okV_mono (by omega) okw, by omega, by omega, p2.le (by omega), by omega⟩
    rw [callN_eq hB]
    generalize xs.take a ++ xs.drop (a + 1) = u1 at *
    generalize xs.take (a + 1) ++ xs.drop a = u2 at *
    simp -implicitDefEqProofs [runD, BentS, isiv, ne, nd, e1, e2, c4, cut_lo, cut_lo1, cut_hi, ch, le_line, b1, b2, ew]
  · obtain ⟨w, s', e, f1, f2, f3, p, l⟩ := ih p2 (by omega) (v := xs[a]) (okVs_iff.mp hv _ (List.getElem_mem ha)) (by omega)
    have hv' : okVs (N + 7) xs = true := okVs_mono (by omega) hv
    have k1 := putS_ok (N := N + 7) (xs := xs) (ys := [w]) (a := a) (b := a + 1) hv' (by simp [okVs, f1])
    obtain ⟨g1, g2, g3⟩ := put_ok (xs := xs) (ys := [w]) (a := a) (b := a + 1) (by omega) hf (by simp [fines, okV_fine hN2 f1])
    refine ⟨_, s', ?_, k1, ?_, ?_, p.le (by omega), by omega⟩
    · rw [callN_eq hB]
      have b1 := ad (us := xs.take a) (ws := [w]) (by rw [lt]; simp; omega)
      have b2 := ad (us := xs.take a ++ [w]) (ws := xs.drop (a + 1)) (by simp [lt, ld1]; omega)
      simp -implicitDefEqProofs [runD, BentS, isiv, ne, nd, e1, e2, c4, at1, e, cut_lo1, cut_hi, le_line, b1, b2]
    · refine Nat.le_trans (g2 (max (dps xs) (3 + d)) (by omega) (by simp [dps]; omega)) (by omega)
    · rw [wt, wts_append, wts_append]
      have := drop_wt ha
      simp only [wts]
      omega
theorem bentS (hD : T[nd]? = some Draw) (hP : T[np]? = some (PickD nd)) (hO : T[no]? = some (OddS np)) (hB : T[nb]? = some (BentS nb nd no np)) {N : Int} (hN : 1000000000000 ≤ N) (hN2 : N + 7 ≤ 10 ^ 20) : ∀ (d k : Nat) {i : Nat} {s : Sto} {n : Int} {v : Val}, Pen s i n → n + 4 * (d + 1) + 10 < 1000000000000000000 → okV N v = true → wt v ≤ 4000000 → BentSOk N s i n d v (callN T (k + d + 4) nb [.loc i, v, .int d] s)
  | d, k, i, s, n, v, hp, hn, hv, hw => by
    by_cases h1 : ∃ x, v = .int x
    · obtain ⟨x, rfl⟩ := h1
      rw [okV, decide_eq_true_eq] at hv
      exact bentSA hD hP hO hB (k := k + d) hN hp (by omega) hv
    · by_cases h2 : ∃ x, v = .str x
      · obtain ⟨x, rfl⟩ := h2
        rw [okV] at hv
        exact bentSW hD hP hO hB (k := k + d) hN hp (by omega) hv
      · by_cases ht : (∀ xs, v ≠ .tup xs) ∨ v = .tup [] ∨ d = 0
        · exact bentSB hD hP hO hB (k := k + d) hN hp (by omega) hv (fun x e => h1 ⟨x, e⟩) (fun x e => h2 ⟨x, e⟩) ht
        · simp only [not_or, Classical.not_forall, Classical.not_not] at ht
          obtain ⟨⟨xs, rfl⟩, h3, h4⟩ := ht
          cases xs with
          | nil => exact absurd rfl h3
          | cons x r =>
            cases d with
            | zero => exact absurd rfl h4
            | succ d =>
              have e : k + (d + 1) + 4 = (k + d) + 5 := by omega
              rw [e]
              rw [okV] at hv
              rw [wt] at hw
              exact bentSC hD hP hO hB (k := k + d) hN hN2 hp (by omega) hv (by omega) fun p a b c => bentS hD hP hO hB hN hN2 d k p a b c
end
end Gz
/-! any value: whether it is an arrangement, by the program and by the law -/
namespace Gz
open PySem L2
theorem ded_len : ∀ (ms acc : List Int), (ms.foldl (fun acc x => if acc.any (· == x) then acc else acc ++ [x]) acc).length ≤ acc.length + ms.length ∧ ((ms.foldl (fun acc x => if acc.any (· == x) then acc else acc ++ [x]) acc).length = acc.length + ms.length ↔ ms.Nodup ∧ ∀ x ∈ ms, x ∉ acc)
  | [], acc => by simp
  | m :: ms, acc => by
    rw [List.foldl_cons]
    by_cases e : acc.any (· == m) = true
    · rw [if_pos e]
      obtain ⟨a, b⟩ := ded_len ms acc
      have hm : m ∈ acc := by
        obtain ⟨y, hy, ey⟩ := List.any_eq_true.mp e
        rw [← eq_of_beq ey]; exact hy
      rw [List.length_cons]
      refine ⟨by omega, fun q => by omega, fun q => absurd hm (q.2 m List.mem_cons_self)⟩
    · rw [if_neg e]
      have hm : m ∉ acc := fun q => e (List.any_eq_true.mpr ⟨m, q, by simp⟩)
      obtain ⟨a, b⟩ := ded_len ms (acc ++ [m])
      rw [List.length_append, List.length_singleton] at a b
      rw [List.length_cons]
      refine ⟨by omega, ?_⟩
      have e2 : acc.length + (ms.length + 1) = acc.length + 1 + ms.length := by omega
      rw [e2, b, List.nodup_cons]
      constructor
      · rintro ⟨h1, h2⟩
        refine ⟨⟨fun q => h2 m q (by simp), h1⟩, fun x hx => ?_⟩
        rcases List.mem_cons.mp hx with rfl | hx
        · exact hm
        · exact fun q => h2 x hx (List.mem_append_left _ q)
      · rintro ⟨⟨h0, h1⟩, h2⟩
        refine ⟨h1, fun x hx q => ?_⟩
        rcases List.mem_append.mp q with q | q
        · exact h2 x (List.mem_cons_of_mem _ hx) q
        · rw [List.mem_singleton] at q
          subst q
          exact h0 hx
theorem dedI_len {ms : List Int} : (dedI ms).length = ms.length ↔ ms.Nodup := by
  have := (ded_len ms []).2
  simp only [List.length_nil, Nat.zero_add] at this
  rw [dedI, this]
  simp
theorem nodup_there {ns : List Int} : (ns.filter fun x => !(x == -1)).Nodup ↔ ∀ x ∈ ns, x = -1 ∨ ns.count x = 1 := by
  rw [List.nodup_iff_count]
  constructor
  · intro h x hx
    by_cases e : x = -1
    · exact .inl e
    · have c := h x
      rw [List.count_filter (by simpa using e)] at c
      have : 0 < ns.count x := List.count_pos_iff.mpr hx
      exact .inr (by omega)
  · intro h x
    by_cases e : x = -1
    · subst e
      rw [List.count_eq_zero.mpr]
      · omega
      · simp
    · rw [List.count_filter (by simpa using e)]
      by_cases hx : x ∈ ns
      · rcases h x hx with q | q
        · exact absurd q e
        · omega
      · rw [List.count_eq_zero.mpr hx]; omega
theorem isSt_inv {r : Ru} (hr : r.ok) {v : Val} (h : isSt r.p r.rows.length v = true) : ∃ row lab, v = sV row lab ∧ StOk r row lab := by
  unfold isSt at h
  split at h
  · rename_i a b
    rw [Bool.and_eq_true] at h
    obtain ⟨h1, h2⟩ := h
    unfold isRw at h1
    split at h1
    · rename_i xs
      rw [Bool.and_eq_true, decide_eq_true_eq] at h1
      obtain ⟨hl, h1⟩ := h1
      split at h1
      · rename_i ns e
        simp only [Bool.and_eq_true, List.all_eq_true, decide_eq_true_eq, Bool.or_eq_true, beq_iff_eq] at h1
        obtain rfl := ints_eq e
        cases b with
        | int l =>
          simp only [isW, Bool.and_eq_true, decide_eq_true_eq] at h2
          obtain ⟨m, rfl⟩ := toNat_of h2.1
          rw [List.length_map] at hl
          exact ⟨ns, m, rfl, by omega, h1.1, fun x hx ne => (h1.2 x hx).resolve_left ne, by omega⟩
        | _ => cases h2
      · cases h1
    · cases h1
  · cases h
section
variable {T : List Def} {nw : Nat}
theorem lstL1 {k : Nat} {s : Sto} (hW : T[nw]? = some WholeD) {xs : List Val} {a b c : Option Slot} (hx : ∀ x ∈ xs, fine x = true) (hl : xs.length ≤ 1000) : evE (callN T (k + 1)) (LIsStD_l1 nw) [a, b, some (.val (.tup xs)), c, none] s = .ok (.fr (xs.map fun x => .bl (isW (-1) 99 x))) [a, b, some (.val (.tup xs)), c, none] s := by
  unfold LIsStD_l1
  rw [ev_lc]
  have e : evI (callN T (k + 1)) (.seq (.var 2)) [a, b, some (.val (.tup xs)), c, none] s = .ok xs [a, b, some (.val (.tup xs)), c, none] s := by simp -implicitDefEqProofs
  rw [e, bind_ok, lc_map (g := fun x => .bl (isW (-1) 99 x)) [] (by have := le_line (n := xs.length) hl; simpa using this) ?_]
  · simp
  · intro x hx'
    simp -implicitDefEqProofs [turnF, whole hW (hx x hx')]
def neV : Val → Bool
  | .int i => !(i == -1)
  | _ => false
theorem lstL0 {F : FT} {s : Sto} {ns : List Int} {a b c : Option Slot} (hl : ns.length ≤ 1000) : evE F (LIsStD_l0 nw) [a, b, some (.val (.tup (iV ns))), c, none] s = .ok (.fr (iV (ns.filter fun x => !(x == -1)))) [a, b, some (.val (.tup (iV ns))), c, none] s := by
  unfold LIsStD_l0
  rw [ev_lc]
  have e : evI F (.seq (.var 2)) [a, b, some (.val (.tup (iV ns))), c, none] s = .ok (iV ns) [a, b, some (.val (.tup (iV ns))), c, none] s := by simp -implicitDefEqProofs
  have l := lc_filter (f := turnF F [4] (.so (.cmp .ne (.var 4) (.neg (.cst (.int 1))))) (.var 4)) (p := neV) (g := id) (r := [a, b, some (.val (.tup (iV ns))), c, none]) (s := s) (xs := iV ns) [] (by have := le_line (n := ns.length) hl; simpa using this) (fun x hx => by
    obtain ⟨j, hj, rfl⟩ := List.mem_map.mp hx
    have nv : neV (.int j) = !(j == -1) := rfl
    rw [nv]
    cases h : (j == -1)
    · simp -implicitDefEqProofs [turnF, h]
    · simp -implicitDefEqProofs [turnF, h])
  have w : wipeR [a, b, some (.val (.tup (iV ns))), c, none] [4] = [a, b, some (.val (.tup (iV ns))), c, none] := rfl
  have f : (iV ns).filter neV = iV (ns.filter fun x => !(x == -1)) := by
    unfold iV
    rw [List.filter_map]; rfl
  rw [e, bind_ok, w, l, List.nil_append, f, List.map_id]
  rfl
theorem lawIsSt {k n : Nat} {s : Sto} (hW : T[nw]? = some WholeD) (hS : T[n]? = some (LIsStD nw)) {r : Ru} (hr : r.ok) {v : Val} (hv : fine v = true) : callN T (k + 2) n [r.v, v] s = .ok (.val (.bl (isSt r.p r.rows.length v))) s := by
  rw [callN_eq hS]
  have p4 := hr.p4
  by_cases ht : ∃ xs, v = .tup xs
  · obtain ⟨xs, rfl⟩ := ht
    rw [fine, fines_iff] at hv
    by_cases hl : xs.length = 2
    · match xs, hl with
      | [a, b], _ =>
        have w := whole (k := k) (s := s) (lo := 0) (hi := (r.rows.length : Int) - 1) hW (hv b (by simp))
        cases hb : isW 0 ((r.rows.length : Int) - 1) b with
        | false =>
          rw [hb] at w
          have e : isSt r.p r.rows.length (.tup [a, b]) = false := by rw [isSt, hb, Bool.and_false]
          simp -implicitDefEqProofs [runD, LIsStD, isiv, Ru.v, w, e]
        | true =>
          rw [hb] at w
          have fa := hv a (by simp)
          have e : isSt r.p r.rows.length (.tup [a, b]) = isRw r.p a := by rw [isSt, hb, Bool.and_true]
          rw [e]
          by_cases hta : ∃ ys, a = .tup ys
          · obtain ⟨ys, rfl⟩ := hta
            rw [fine, fines_iff] at fa
            by_cases hly : (ys.length : Int) = r.p
            · have l1 := lstL1 (k := k) (s := s) hW (xs := ys) (a := some (.val r.v)) (b := some (.val (.tup [.tup ys, b]))) (c := none) fa (by omega)
              cases ha : ys.all (isW (-1) 99) with
              | false =>
                have e : isRw r.p (.tup ys) = false := by
                  rw [isRw]
                  cases e : ints? ys with
                  | none => simp
                  | some ns =>
                    obtain rfl := ints_eq e
                    have : (ns.all fun x => decide (-1 ≤ x) && decide (x ≤ 99)) = false := by
                      rw [List.all_map] at ha
                      exact ha
                    simp [this]
                rw [Ru.v] at *
                simp -implicitDefEqProofs [runD, LIsStD, isiv, w, hly, l1, bools_map, all_map, ha, e]
              | true =>
                obtain ⟨ns, rfl, hb2⟩ := allW ha
                have hl' : (ns.length : Int) = r.p := by rw [List.length_map] at hly; exact hly
                have l0 := lstL0 (nw := nw) (F := callN T (k + 1)) (s := s) (ns := ns) (a := some (.val r.v)) (b := some (.val (.tup [.tup (iV ns), b]))) (c := none) (by omega)
                have e : isRw r.p (.tup (ns.map .int)) = ns.all fun x => x == -1 || decide (ns.count x = 1) := by
                  rw [isRw, ints_map]
                  dsimp only
                  have : (ns.all fun x => decide (-1 ≤ x) && decide (x ≤ 99)) = true := by
                    rw [List.all_eq_true]; intro x hx; have := hb2 x hx; simp; omega
                  rw [this, decide_eq_true hly]; rfl
                have e3 : (((dedI (ns.filter fun x => !(x == -1))).length : Int) == ((ns.filter fun x => !(x == -1)).length : Int)) = ns.all fun x => x == -1 || decide (ns.count x = 1) := by
                  rw [Bool.eq_iff_iff, beq_iff_eq, List.all_eq_true]
                  simp only [Bool.or_eq_true, beq_iff_eq, decide_eq_true_eq]
                  rw [← nodup_there, ← dedI_len]
                  omega
                change evE _ _ [_, some (.val (.tup [.tup (iV ns), b])), some (.val (.tup (iV ns))), _, _] s = _ at l1
                have l1' : evE (callN T (k + 1)) (LIsStD_l1 nw) [some (.val r.v), some (.val (.tup [.tup (iV ns), b])), some (.val (.tup (iV ns))), none, none] s = .ok (.fr (List.replicate ns.length (.bl true))) [some (.val r.v), some (.val (.tup [.tup (iV ns), b])), some (.val (.tup (iV ns))), none, none] s := by
                  rw [l1, trues_of (List.all_eq_true.mp ha), List.length_map]; rfl
                change runD _ _ [_, .tup [.tup (iV ns), b]] s = .ok (.val (.bl (isRw r.p (.tup (ns.map .int))))) s
                rw [e, ← e3]
                have fl : (ns.filter fun x => !(x == -1)).length ≤ 1000 := by
                  have := List.length_filter_le (fun x => !(x == -1)) ns
                  omega
                generalize (ns.filter fun x => !(x == -1)) = ms at *
                have im : ints? (iV ms) = some ms := ints_map ms
                rw [Ru.v] at *
                simp -implicitDefEqProofs [runD, LIsStD, isiv, w, hl', l1', l0, bools_rep, im, intsOf, fl]
            · have e : isRw r.p (.tup ys) = false := by rw [isRw, decide_eq_false hly]; rfl
              have hbq : ((ys.length : Int) == (r.p : Int)) = false := by rw [beq_eq_false_iff_ne]; exact hly
              simp -implicitDefEqProofs [runD, LIsStD, isiv, Ru.v, w, hbq, e]
          · have hn := notT_of fa fun xs e => hta ⟨xs, e⟩
            have e : isRw r.p a = false := by cases a <;> first | rfl | exact absurd ⟨_, rfl⟩ hta
            have d2 : ∀ (xs : List Val) (s : Sto), deref (.tup xs) s = some (.tup xs) := fun _ _ => rfl
            have iT : isiv (.tup [a, b]) "tuple" = some true := rfl
            rw [Ru.v]
            simp -implicitDefEqProofs [-deref, runD, LIsStD, w, d2, iT, hn.1, hn.2, e]
    · have hz : ((xs.length : Int) == 2) = false := by rw [beq_eq_false_iff_ne]; omega
      have e : isSt r.p r.rows.length (.tup xs) = false := by
        match xs, hl with
        | [], _ => rfl
        | [_], _ => rfl
        | _ :: _ :: _ :: _, _ => rfl
      simp -implicitDefEqProofs [runD, LIsStD, isiv, hz, e]
  · have hn := notT_of hv fun xs e => ht ⟨xs, e⟩
    have e : isSt r.p r.rows.length v = false := by cases v <;> first | rfl | exact absurd ⟨_, rfl⟩ ht
    simp -implicitDefEqProofs [-deref, runD, LIsStD, hn.1, hn.2, e]
/-- both tell the same -/
theorem both {nrw nso nna nip nls nln nlp nlw : Nat} (hW : T[nw]? = some WholeD) (hR : T[nrw]? = some (IsRowD nw)) (hS : T[nso]? = some (StateOfD nrw nw)) (hNa : T[nna]? = some NamedD) (hP : T[nip]? = some (IsPairD nna nso)) (hW2 : T[nlw]? = some WholeD) (hLS : T[nls]? = some (LIsStD nlw)) (hLN : T[nln]? = some LNamedD) (hLP : T[nlp]? = some (LIsPairD nln nls)) {r1 r2 : Ru} (h1 : r1.ok) (h2 : r2.ok) {v : Val} (hv : fine v = true) :
    ∃ b, (∀ k s, callN T (k + 4) nip [r1.v, r2.v, v] s = .ok (.val (.bl b)) s) ∧ ∀ k s, callN T (k + 4) nlp [r1.v, r2.v, v] s = .ok (.val (.bl b)) s := by
  by_cases ht : ∃ xs, v = .tup xs
  · obtain ⟨xs, rfl⟩ := ht
    have hv0 := hv
    rw [fine, fines_iff] at hv
    by_cases hl : xs.length = 2
    · match xs, hl with
      | [a, b], _ =>
        have a1 := fun k s => stateOf (k := k) (s := s) hW hR hS h1 (hv a (by simp))
        have a2 := fun k s => stateOf (k := k) (s := s) hW hR hS h2 (hv b (by simp))
        have b1 := fun k s => lawIsSt (k := k) (s := s) hW2 hLS h1 (hv a (by simp))
        have b2 := fun k s => lawIsSt (k := k) (s := s) hW2 hLS h2 (hv b (by simp))
        cases ha : isSt r1.p r1.rows.length a with
        | false =>
          rw [ha] at a1 b1
          refine ⟨false, fun k s => ?_, fun k s => ?_⟩
          · rw [callN_eq hP]
            have e1 := a1 k s
            generalize r1.v = v1 at *
            generalize r2.v = v2 at *
            simp -implicitDefEqProofs [runD, IsPairD, isiv, e1]
          · rw [callN_eq hLP]
            have e1 := b1 (k + 1) s
            generalize r1.v = v1 at *
            generalize r2.v = v2 at *
            simp -implicitDefEqProofs [runD, LIsPairD, isiv, e1]
        | true =>
          rw [ha] at a1 b1
          cases hb : isSt r2.p r2.rows.length b with
          | false =>
            rw [hb] at a2 b2
            refine ⟨false, fun k s => ?_, fun k s => ?_⟩
            · rw [callN_eq hP]
              have e1 := a1 k s
              have e2 := a2 k s
              generalize r1.v = v1 at *
              generalize r2.v = v2 at *
              simp -implicitDefEqProofs [runD, IsPairD, isiv, e1, e2]
            · rw [callN_eq hLP]
              have e1 := b1 (k + 1) s
              have e2 := b2 (k + 1) s
              generalize r1.v = v1 at *
              generalize r2.v = v2 at *
              simp -implicitDefEqProofs [runD, LIsPairD, isiv, e1, e2]
          | true =>
            rw [hb] at a2 b2
            obtain ⟨A, la, rfl, oa⟩ := isSt_inv h1 ha
            obtain ⟨B, lb, rfl, ob⟩ := isSt_inv h2 hb
            have tw : TwoOk r1 r2 ⟨A, la, B, lb⟩ := ⟨oa, ob⟩
            have ln := tw.len h1 h2
            have f := tw.fit h1 h2
            have nf := (nameOk h1 h2 tw).toTwoOk.fit h1 h2
            obtain ⟨c, ec, _⟩ := eqq_itr (v := (nameT ⟨A, la, B, lb⟩).v) (w := (Pa.mk A la B lb).v) itr_pa itr_pa nf.f f.f (by have := nf.d; omega) (by have := f.d; omega)
            refine ⟨c, fun k s => ?_, fun k s => ?_⟩
            · rw [callN_eq hP]
              have e1 := a1 k s
              have e2 := a2 k s
              have e3 := named (k := k + 2) (s := s) hNa (p := ⟨A, la, B, lb⟩) (by omega)
              have pv : (Pa.mk A la B lb).v = .tup [sV A la, sV B lb] := rfl
              rw [pv] at ec
              generalize (nameT ⟨A, la, B, lb⟩).v = nv at *
              generalize r1.v = v1 at *
              generalize r2.v = v2 at *
              generalize sV A la = sa at *
              generalize sV B lb = sb at *
              simp -implicitDefEqProofs [runD, IsPairD, isiv, e1, e2, e3, ec]
            · rw [callN_eq hLP]
              have e1 := b1 (k + 1) s
              have e2 := b2 (k + 1) s
              have e3 := lnamed (k := k + 2) (s := s) hLN (p := ⟨A, la, B, lb⟩) (by omega)
              have pv : (Pa.mk A la B lb).v = .tup [sV A la, sV B lb] := rfl
              rw [pv] at ec e3
              generalize (nameT ⟨A, la, B, lb⟩).v = nv at *
              generalize r1.v = v1 at *
              generalize r2.v = v2 at *
              generalize sV A la = sa at *
              generalize sV B lb = sb at *
              simp -implicitDefEqProofs [runD, LIsPairD, isiv, e1, e2, e3, ec]
    · have hz : ((xs.length : Int) == 2) = false := by rw [beq_eq_false_iff_ne]; omega
      refine ⟨false, fun k s => ?_, fun k s => ?_⟩
      · rw [callN_eq hP]
        simp -implicitDefEqProofs [runD, IsPairD, isiv, hz]
      · rw [callN_eq hLP]
        simp -implicitDefEqProofs [runD, LIsPairD, isiv, hz]
  · have hn := notT_of hv fun xs e => ht ⟨xs, e⟩
    refine ⟨false, fun k s => ?_, fun k s => ?_⟩
    · rw [callN_eq hP]
      simp -implicitDefEqProofs [-deref, runD, IsPairD, hn.1, hn.2]
    · rw [callN_eq hLP]
      simp -implicitDefEqProofs [-deref, runD, LIsPairD, hn.1, hn.2]
theorem start {k n no nm nms nr nu nn nns nf nfp : Nat} {s : Sto} {x : CS} (R : RuleT T nw no nm nms nr nu) (hN : T[nn]? = some (NeedRuleD nu x)) (hNs : T[nns]? = some (NeedRulesD nn)) (hF : T[nf]? = some FirstD) (hFp : T[nfp]? = some (LMetD nf)) (hS : T[n]? = some (StartD nfp nns)) {r1 r2 : Ru} (h1 : r1.ok) (h2 : r2.ok) : callN T (k + 9) n [r1.v, r2.v] s = .ok (.val (metT r1 r2).v) s := by
  rw [callN_eq hS]
  have e1 := needRules (k := k) (s := s) R hN hNs h1 h2
  have e2 : callN T (k + 8) nfp [r1.v, r2.v] s = .ok (.val (metT r1 r2).v) s := by
    rw [callN_eq hFp]
    have f1 := firstState (k := k + 6) (s := s) hF h1
    have f2 := firstState (k := k + 6) (s := s) hF h2
    generalize r1.v = v1 at *
    generalize r2.v = v2 at *
    simp -implicitDefEqProofs [runD, LMetD, f1, f2, le_line, Pa.v, metT]
  generalize (metT r1 r2).v = mv at *
  generalize r1.v = v1 at *
  generalize r2.v = v2 at *
  simp -implicitDefEqProofs [runD, StartD, e1, e2]
/-- another name for a thing -/
def rn (ms : List Int) (x : Int) : Int := if x = -1 then -1 else gt ms x.toNat
theorem ren_l0 {F : FT} {s : Sto} {nx : Nat} {a b y c : Option Slot} {ms X : List Int} (hm : ms.length = 10) (hX : ∀ x ∈ X, -1 ≤ x ∧ x ≤ 7) (hl : X.length ≤ 1000) : evE F (LRenD_l0 nx) [a, b, some (.own (iV ms)), some (.val (.tup (iV X))), c, y] s = .ok (.fr (iV (X.map (rn ms)))) [a, b, some (.own (iV ms)), some (.val (.tup (iV X))), c, none] s := by
  unfold LRenD_l0
  rw [ev_lc]
  have e : evI F (.seq (.var 3)) [a, b, some (.own (iV ms)), some (.val (.tup (iV X))), c, y] s = .ok (iV X) [a, b, some (.own (iV ms)), some (.val (.tup (iV X))), c, y] s := by simp -implicitDefEqProofs
  rw [e, bind_ok, lc_map (g := fun v => match v with | .int i => .int (rn ms i) | x => x) [] (by have := le_line (n := X.length) hl; simpa using this) ?_]
  · have : (iV X).map (fun v => match v with | .int i => .int (rn ms i) | x => x) = iV (X.map (rn ms)) := by unfold iV; rw [List.map_map, List.map_map]; rfl
    simp [this]
  · intro x hx
    obtain ⟨i, hi, rfl⟩ := List.mem_map.mp hx
    have b := hX i hi
    by_cases h : i = -1
    · subst h
      simp -implicitDefEqProofs [turnF, rn]
    · obtain ⟨j, rfl⟩ := toNat_of (show 0 ≤ i by omega)
      have g := arr_at (row := ms) (a := j) (by omega)
      have hb : ((j : Int) == -1) = false := by rw [beq_eq_false_iff_ne]; exact h
      have r : rn ms (j : Int) = gt ms j := by unfold rn; rw [if_neg h]; rfl
      simp -implicitDefEqProofs [turnF, g, hb, r]
theorem renamed {k n nd nx i : Nat} {s : Sto} {q : Int} (hX : T[nx]? = some (MixD nd)) (hD : T[nd]? = some Draw) (hN : T[n]? = some (LRenD nx)) {r1 r2 : Ru} (h1 : r1.ok) (h2 : r2.ok) {p : Pa} (ho : PaOk r1 r2 p) (hp : Pen s i q) (hn : q + 100 < 1000000000000000000) :
    ∃ (p' : Pa) (s' : Sto), callN T (k + 3) n [.loc i, p.v] s = .ok (.val p'.v) s' ∧ (∀ x, x ∈ p'.A ∨ x ∈ p'.B → -1 ≤ x ∧ x ≤ 99) ∧ p'.A.length + p'.B.length ≤ 8 ∧ p'.la = p.la ∧ p'.lb = p.lb ∧ Pen s' i (q + 10) ∧ s'.length = s.length := by
  obtain ⟨ys, s1, e1, pm, p1, l1⟩ := mixed (k := k) (v := .lst (iV [0, 1, 2, 3, 4, 5, 6, 7, 8, 99])) (.inl rfl) hX hD hp (by simp; omega) (by decide)
  obtain ⟨ms, rfl, pm2⟩ := iV_perm pm
  have ml : ms.length = 10 := pm2.length_eq
  have mb : ∀ j, j < 10 → 0 ≤ gt ms j ∧ gt ms j ≤ 99 := fun j hj => by
    have := pm2.mem_iff.mp (gt_mem (l := ms) (by omega : j < ms.length))
    simp only [List.mem_cons, List.not_mem_nil, or_false] at this
    omega
  have rb : ∀ x, -1 ≤ x ∧ x ≤ 7 → -1 ≤ rn ms x ∧ rn ms x ≤ 99 := fun x hx => by
    unfold rn
    split
    · omega
    · have := mb x.toNat (by omega); omega
  have ln := ho.toTwoOk.len h1 h2
  have ba : ∀ x, x ∈ p.A ∨ x ∈ p.B → -1 ≤ x ∧ x ≤ 7 := fun x hx => ⟨hx.elim (fun h => (ho.a.bd x h).1) (fun h => (ho.b.bd x h).1), ho.bd x hx⟩
  refine ⟨⟨p.A.map (rn ms), p.la, p.B.map (rn ms), p.lb⟩, s1, ?_, ?_, by simpa using ln, rfl, rfl, p1.le (by simp), l1⟩
  · rw [callN_eq hN]
    have l := fun (y : Option Slot) => ren_l0 (F := callN T (k + 2)) (s := s1) (nx := nx) (a := some (.val (.loc i))) (b := some (.val p.v)) (y := y) (c := some (.val (.int p.la))) (X := p.A) ml (fun x hx => ba x (.inl hx)) (by omega)
    have l' := fun (y : Option Slot) => ren_l0 (F := callN T (k + 2)) (s := s1) (nx := nx) (a := some (.val (.loc i))) (b := some (.val p.v)) (y := y) (c := some (.val (.int p.lb))) (X := p.B) ml (fun x hx => ba x (.inr hx)) (by omega)
    have lc : ∃ z, evE (callN T (k + 2)) (LRenD_l1 nx) [some (.val (.loc i)), some (.val p.v), some (.own (iV ms)), none, none, none] s1 = .ok (.fr [sV (p.A.map (rn ms)) p.la, sV (p.B.map (rn ms)) p.lb]) z s1 := by
      unfold LRenD_l1
      rw [ev_lc]
      have e : evI (callN T (k + 2)) (.seq (.var 1)) [some (.val (.loc i)), some (.val p.v), some (.own (iV ms)), none, none, none] s1 = .ok [sV p.A p.la, sV p.B p.lb] [some (.val (.loc i)), some (.val p.v), some (.own (iV ms)), none, none, none] s1 := by
        simp -implicitDefEqProofs [Pa.v]
      rw [e, bind_ok]
      generalize hq : some (Slot.val p.v) = q at *
      have t1 := fun y => show turnF (callN T (k + 2)) [3, 4] .no (.tup (.cons (.blt .tuple (.cons (LRenD_l0 nx) .nil)) (.cons (.var 4) .nil))) (sV p.A p.la) [some (.val (.loc i)), q, some (.own (iV ms)), none, none, y] s1 = .ok (some (sV (p.A.map (rn ms)) p.la)) [some (.val (.loc i)), q, some (.own (iV ms)), none, none, none] s1 by
        have := l y
        unfold sV at this ⊢
        simp -implicitDefEqProofs [turnF, this, le_line]
      have t2 := fun y => show turnF (callN T (k + 2)) [3, 4] .no (.tup (.cons (.blt .tuple (.cons (LRenD_l0 nx) .nil)) (.cons (.var 4) .nil))) (sV p.B p.lb) [some (.val (.loc i)), q, some (.own (iV ms)), none, none, y] s1 = .ok (some (sV (p.B.map (rn ms)) p.lb)) [some (.val (.loc i)), q, some (.own (iV ms)), none, none, none] s1 by
        have := l' y
        unfold sV at this ⊢
        simp -implicitDefEqProofs [turnF, this, le_line]
      refine ⟨[some (.val (.loc i)), q, some (.own (iV ms)), none, none, none], ?_⟩
      have z0 : (0 : Nat) < sizeLine := by rw [sizeLine_eq]; omega
      have z1 : (1 : Nat) < sizeLine := by rw [sizeLine_eq]; omega
      simp -implicitDefEqProofs [lcLoop, t1, t2, z0, z1]
    obtain ⟨z, lc⟩ := lc
    have i0 : iV [0, 1, 2, 3, 4, 5, 6, 7, 8, 99] = [.int 0, .int 1, .int 2, .int 3, .int 4, .int 5, .int 6, .int 7, .int 8, .int 99] := rfl
    rw [i0] at e1
    have ev : ∀ A a B b, (Pa.mk A a B b).v = .tup [sV A a, sV B b] := fun _ _ _ _ => rfl
    generalize p.v = pv at *
    rw [ev]
    generalize iV ms = IM at *
    simp -implicitDefEqProofs [runD, LRenD, e1, lc, le_line]
  · intro x hx
    simp only [List.mem_map] at hx
    rcases hx with ⟨y, hy, rfl⟩ | ⟨y, hy, rfl⟩
    · exact rb y (ba y (.inl hy))
    · exact rb y (ba y (.inr hy))
end
end Gz
/-! generic defs (printed by gz.py --gen) -/
namespace Gz
open PySem L2
/-- _law_any_rule(_law_pen_here), slots 0=_law_pen_here 1=_law_way 2=_law_places 3=_law_trial; calls c_law_drawn c_law_draw c_segments c_tree c_chance c_newest c_queue c_recent -/
def AnyRuleD (c_law_drawn c_law_draw c_segments c_tree c_chance c_newest c_queue c_recent : Nat) : Def := ⟨1, 4,
    (.cons (.par [1, 2] (.cons (.call c_law_draw (.cons (.var 0) (.cons (.cst (.int 9)) .nil))) (.cons (.bin .add (.cst (.int 1)) (.call c_law_draw (.cons (.var 0) (.cons (.cst (.int 4)) .nil)))) .nil)))
    (.cons (.ifs (.cmp .lt (.var 1) (.cst (.int 4)))
    (.cons (.ret (.callv (.idx (.lst (.cons (.cst (.fn c_recent)) (.cons (.cst (.fn c_queue)) (.cons (.cst (.fn c_newest)) (.cons (.cst (.fn c_chance)) .nil))))) (.var 1)) (.cons (.var 2) .nil)))
    .nil)
    .nil)
    (.cons (.ifs (.cmp .eq (.var 1) (.cst (.int 4)))
    (.cons (.ret (.call c_tree (.cons (.idx (.lst (.cons (.cst (.int 1)) (.cons (.cst (.int 2)) (.cons (.cst (.int 4)) .nil)))) (.call c_law_draw (.cons (.var 0) (.cons (.cst (.int 3)) .nil)))) .nil)))
    .nil)
    .nil)
    (.cons (.ifs (.cmp .eq (.var 1) (.cst (.int 5)))
    (.cons (.asg 3 (.bin .add (.cst (.int 1)) (.call c_law_draw (.cons (.var 0) (.cons (.cst (.int 3)) .nil)))))
    (.cons (.ret (.call c_segments (.cons (.var 3) (.cons (.bin .add (.cst (.int 1)) (.call c_law_draw (.cons (.var 0) (.cons (.bin .sub (.cst (.int 4)) (.var 3)) .nil)))) .nil))))
    .nil))
    .nil)
    (.cons (.ret (.call c_law_drawn (.cons (.var 0) (.cons (.var 2) (.cons (.bin .add (.cst (.int 1)) (.call c_law_draw (.cons (.var 0) (.cons (.cst (.int 5)) .nil)))) .nil)))))
    .nil)))))⟩
def OthersD_b0 (c_law_mixed : Nat) : CSs := 
    (.cons (.setD 3 (.var 4) (.pop 2))
    .nil)
def OthersD_f0 (c_law_mixed : Nat) : CS := .for_ [4] (.seq (.srtSet (.var 1))) (OthersD_b0 c_law_mixed)
/-- _law_others(_law_pen_here, _law_wishes_here), slots 0=_law_pen_here 1=_law_wishes_here 2=_law_names 3=_law_found 4=_law_thing; calls c_law_mixed -/
def OthersD (c_law_mixed : Nat) : Def := ⟨2, 5,
    (.cons (.asg 2 (.call c_law_mixed (.cons (.var 0) (.cons (.rng false .no (.so (.cst (.int 100)))) .nil))))
    (.cons (.asg 3 (.dctE (.neg (.cst (.int 1))) (.neg (.cst (.int 1)))))
    (.cons (OthersD_f0 c_law_mixed)
    (.cons (.retV 3)
    .nil))))⟩
end Gz
/-! the rules with names, as typed rules; any rule -/
namespace Gz
open PySem L2
def mvOkB (p l : Nat) (m : Mv) : Bool := m.ord.isPerm (List.range p) && decide (m.to < l)
def lrOkB (p l : Nat) (x : Lr) : Bool := decide (x.hits.length = p) && x.hits.all (mvOkB p l) && decide (x.out < p) && decide (x.comes.length = p) && x.comes.all (mvOkB p l)
def ruOkB (r : Ru) : Bool := decide (1 ≤ r.p) && decide (r.p ≤ 4) && decide (1 ≤ r.rows.length) && decide (r.rows.length ≤ 16) && r.rows.all (lrOkB r.p r.rows.length)
theorem mvOkB_ok {p l : Nat} {m : Mv} (h : mvOkB p l m = true) : m.ok p l := by
  unfold mvOkB at h
  rw [Bool.and_eq_true, List.isPerm_iff, decide_eq_true_eq] at h
  exact h
theorem ruOkB_ok {r : Ru} (h : ruOkB r = true) : r.ok := by
  unfold ruOkB at h
  simp only [Bool.and_eq_true, decide_eq_true_eq, List.all_eq_true] at h
  obtain ⟨⟨⟨⟨h1, h2⟩, h3⟩, h4⟩, h5⟩ := h
  refine ⟨h1, h2, h3, h4, fun x hx => ?_⟩
  have q := h5 x hx
  unfold lrOkB at q
  simp only [Bool.and_eq_true, decide_eq_true_eq, List.all_eq_true] at q
  obtain ⟨⟨⟨⟨q1, q2⟩, q3⟩, q4⟩, q5⟩ := q
  exact ⟨⟨q1, fun m hm => mvOkB_ok (q2 m hm)⟩, q3, ⟨q4, fun m hm => mvOkB_ok (q5 m hm)⟩⟩
/-- the rule of a tree -/
def trOrd (p j : Nat) : List Nat := if p = 1 then [0] else if p = 2 then [if j % 2 = 0 then j + 1 else j - 1, j] else [if j < 2 then 2 else 0, (if j < 2 then 2 else 0) + 1, if j % 2 = 0 then j + 1 else j - 1, j]
def trRule (p : Nat) : Ru := ⟨p, [⟨(List.range p).map fun j => ⟨trOrd p j, 0⟩, 0, (List.range p).map fun j => ⟨trOrd p j, 0⟩⟩]⟩
/-- the rule of second chances -/
def chRow (p l : Nat) : Lr := ⟨(List.range p).map fun j => ⟨List.range p, if l / 2 ^ j % 2 = 1 then l else l + 2 ^ j⟩, if l + 1 = 2 ^ p then 0 else (List.range p).findIdx fun j => l / 2 ^ j % 2 == 0,
  (List.range p).map fun j => ⟨((List.range p).drop (j + 1)) ++ List.range (j + 1), if l + 1 = 2 ^ p then 0 else l / 2 ^ (j + 1)⟩⟩
def chRule (p : Nat) : Ru := ⟨p, (List.range (2 ^ p)).map (chRow p)⟩
theorem names_ok : ([1, 2, 3, 4].all fun p => ruOkB (lRule p 0 true (p - 1)) && ruOkB (lRule p 0 false (p - 1)) && ruOkB (lRule p 0 true 0) && ruOkB (chRule p)) = true := by decide +kernel
theorem tr_ok : ([1, 2, 4].all fun p => ruOkB (trRule p)) = true := by decide +kernel
theorem seg_ok : ([(1, 1), (1, 2), (2, 1), (1, 3), (2, 2), (3, 1)].all fun x => ruOkB (lRule (x.1 + x.2) x.2 true (x.1 + x.2 - 1))) = true := by decide +kernel
/-- what the program's defs of rules with names tell -/
structure NamesT (T : List Def) (L nrec nq nnew nch ntr nseg : Nat) : Prop where
  rct : ∀ p ∈ [1, 2, 3, 4], ∀ k s, callN T (k + L) nrec [.int (p : Nat)] s = .ok (.val (lRule p 0 true (p - 1)).v) s
  que : ∀ p ∈ [1, 2, 3, 4], ∀ k s, callN T (k + L) nq [.int (p : Nat)] s = .ok (.val (lRule p 0 false (p - 1)).v) s
  new : ∀ p ∈ [1, 2, 3, 4], ∀ k s, callN T (k + L) nnew [.int (p : Nat)] s = .ok (.val (lRule p 0 true 0).v) s
  cha : ∀ p ∈ [1, 2, 3, 4], ∀ k s, callN T (k + L) nch [.int (p : Nat)] s = .ok (.val (chRule p).v) s
  tre : ∀ p ∈ [1, 2, 4], ∀ k s, callN T (k + L) ntr [.int (p : Nat)] s = .ok (.val (trRule p).v) s
  seg : ∀ x ∈ [(1, 1), (1, 2), (2, 1), (1, 3), (2, 2), (3, 1)], ∀ k s, callN T (k + L) nseg [.int (x.1 : Nat), .int (x.2 : Nat)] s = .ok (.val (lRule (x.1 + x.2) x.2 true (x.1 + x.2 - 1)).v) s
section
variable {T : List Def} {k i nd nx nm nw n nrec nq nnew nch ntr nseg : Nat} {s : Sto} {q : Int}
theorem p4_mem {d : Int} (h0 : 0 ≤ d) (h4 : d < 4) : ∃ p : Nat, 1 + d = p ∧ p ∈ [1, 2, 3, 4] := by
  refine ⟨(1 + d).toNat, by omega, ?_⟩
  have : (1 + d).toNat = 1 ∨ (1 + d).toNat = 2 ∨ (1 + d).toNat = 3 ∨ (1 + d).toNat = 4 := by omega
  rcases this with e | e | e | e <;> rw [e] <;> decide
theorem anyRule (N : NamesT T 12 nrec nq nnew nch ntr nseg) (hD : T[nd]? = some Draw) (hX : T[nx]? = some (MixD nd)) (hM : T[nm]? = some (MvsD nd nx)) (hW : T[nw]? = some (DrawnD nd nm)) (hA : T[n]? = some (AnyRuleD nw nd nseg ntr nch nnew nq nrec)) (hp : Pen s i q) (hn : q + 4000 < 1000000000000000000) :
    ∃ r : Ru, r.ok ∧ ∃ s', callN T (k + 13) n [.loc i] s = .ok (.val r.v) s' ∧ Pen s' i (q + 3000) ∧ s'.length = s.length := by
  obtain ⟨w, s1, e1, w0, w9, p1, l1⟩ := draw (k := k + 11) hD hp (by omega) (m := 9) (by decide) (by decide)
  obtain ⟨d, s2, e2, d0, d4, p2, l2⟩ := draw (k := k + 11) hD p1 (by omega) (m := 4) (by decide) (by decide)
  obtain ⟨p, ep, pm⟩ := p4_mem d0 d4
  have no := List.all_eq_true.mp names_ok p pm
  simp only [Bool.and_eq_true] at no
  obtain ⟨⟨⟨n1, n2⟩, n3⟩, n4⟩ := no
  by_cases c : w < 4
  · have : w = 0 ∨ w = 1 ∨ w = 2 ∨ w = 3 := by omega
    have a0 : ∀ a b c d : Val, atI [a, b, c, d] 0 = some a := fun _ _ _ _ => rfl
    have a1 : ∀ a b c d : Val, atI [a, b, c, d] 1 = some b := fun _ _ _ _ => rfl
    have a2 : ∀ a b c d : Val, atI [a, b, c, d] 2 = some c := fun _ _ _ _ => rfl
    have a3 : ∀ a b c d : Val, atI [a, b, c, d] 3 = some d := fun _ _ _ _ => rfl
    rcases this with rfl | rfl | rfl | rfl
    · refine ⟨_, ruOkB_ok n1, s2, ?_, p2.le (by omega), by omega⟩
      have e := N.rct p pm k s2
      rw [callN_eq hA]
      generalize (lRule p 0 true (p - 1)).v = V at *
      simp -implicitDefEqProofs [runD, AnyRuleD, e1, e2, ep, a0, le_line, e]
    · refine ⟨_, ruOkB_ok n2, s2, ?_, p2.le (by omega), by omega⟩
      have e := N.que p pm k s2
      rw [callN_eq hA]
      generalize (lRule p 0 false (p - 1)).v = V at *
      simp -implicitDefEqProofs [runD, AnyRuleD, e1, e2, ep, a1, le_line, e]
    · refine ⟨_, ruOkB_ok n3, s2, ?_, p2.le (by omega), by omega⟩
      have e := N.new p pm k s2
      rw [callN_eq hA]
      generalize (lRule p 0 true 0).v = V at *
      simp -implicitDefEqProofs [runD, AnyRuleD, e1, e2, ep, a2, le_line, e]
    · refine ⟨_, ruOkB_ok n4, s2, ?_, p2.le (by omega), by omega⟩
      have e := N.cha p pm k s2
      rw [callN_eq hA]
      generalize (chRule p).v = V at *
      simp -implicitDefEqProofs [runD, AnyRuleD, e1, e2, ep, a3, le_line, e]
  · by_cases c4 : w = 4
    · subst c4
      obtain ⟨d', s3, e3, f0, f3, p3, l3⟩ := draw (k := k + 11) hD p2 (by omega) (m := 3) (by decide) (by decide)
      obtain ⟨t, et, tm⟩ : ∃ t : Nat, atI [Val.int 1, .int 2, .int 4] d' = some (.int (t : Int)) ∧ t ∈ [1, 2, 4] := by
        have : d' = 0 ∨ d' = 1 ∨ d' = 2 := by omega
        rcases this with rfl | rfl | rfl
        · exact ⟨1, rfl, by decide⟩
        · exact ⟨2, rfl, by decide⟩
        · exact ⟨4, rfl, by decide⟩
      refine ⟨_, ruOkB_ok (List.all_eq_true.mp tr_ok t tm), s3, ?_, p3.le (by omega), by omega⟩
      have e := N.tre t tm k s3
      rw [callN_eq hA]
      generalize (trRule t).v = V at *
      simp -implicitDefEqProofs [runD, AnyRuleD, e1, e2, e3, et, le_line, e]
    · by_cases c5 : w = 5
      · subst c5
        obtain ⟨d', s3, e3, f0, f3, p3, l3⟩ := draw (k := k + 11) hD p2 (by omega) (m := 3) (by decide) (by decide)
        obtain ⟨d2, s4, e4, g0, g3, p4, l4⟩ := draw (k := k + 11) hD p3 (by omega) (m := 4 - (1 + d')) (by omega) (by omega)
        obtain ⟨x, x1, x2, xm⟩ : ∃ x : Nat × Nat, 1 + d' = (x.1 : Int) ∧ 1 + d2 = (x.2 : Int) ∧ x ∈ [(1, 1), (1, 2), (2, 1), (1, 3), (2, 2), (3, 1)] := by
          refine ⟨((1 + d').toNat, (1 + d2).toNat), by simp; omega, by simp; omega, ?_⟩
          have : (d' = 0 ∧ d2 = 0) ∨ (d' = 0 ∧ d2 = 1) ∨ (d' = 0 ∧ d2 = 2) ∨ (d' = 1 ∧ d2 = 0) ∨ (d' = 1 ∧ d2 = 1) ∨ (d' = 2 ∧ d2 = 0) := by omega
          rcases this with ⟨rfl, rfl⟩ | ⟨rfl, rfl⟩ | ⟨rfl, rfl⟩ | ⟨rfl, rfl⟩ | ⟨rfl, rfl⟩ | ⟨rfl, rfl⟩ <;> decide
        refine ⟨_, ruOkB_ok (List.all_eq_true.mp seg_ok x xm), s4, ?_, p4.le (by omega), by omega⟩
        have e := N.seg x xm k s4
        rw [callN_eq hA]
        rw [x1] at e4
        generalize (lRule (x.1 + x.2) x.2 true (x.1 + x.2 - 1)).v = V at *
        simp -implicitDefEqProofs [runD, AnyRuleD, e1, e2, e3, e4, x1, x2, le_line, e]
      · obtain ⟨d', s3, e3, f0, f5, p3, l3⟩ := draw (k := k + 11) hD p2 (by omega) (m := 5) (by decide) (by decide)
        obtain ⟨v, s4, e4, h4, p4, l4⟩ := drawn (k := k + 8) hD hX hM hW p3 (by omega) (p := 1 + d) (l := 1 + d') (by omega) (by omega) (by omega) (by omega)
        obtain ⟨r, rfl, ro⟩ := drawn_ru (l := 5) (by omega) (.inr ⟨_, _, by omega, by omega, by omega, by omega, h4⟩)
        refine ⟨r, ro, s4, ?_, p4.le (by omega), by omega⟩
        rw [callN_eq hA]
        have w4 : ¬ w < 4 := c
        generalize r.v = V at *
        simp -implicitDefEqProofs [runD, AnyRuleD, e1, e2, e3, e4, w4, c4, c5]
end
end Gz
/-! values that are equal to themselves; things by other names -/
namespace Gz
open PySem L2
mutual
/-- data without dicts -/
def nod : Val → Bool
  | .non => true
  | .bl _ => true
  | .int _ => true
  | .tup xs => nods xs
  | .lst xs => nods xs
  | _ => false
def nods : List Val → Bool
  | [] => true
  | x :: xs => nod x && nods xs
end
theorem nods_iff {xs : List Val} : nods xs = true ↔ ∀ x ∈ xs, nod x = true := by
  induction xs with
  | nil => simp [nods]
  | cons x xs ih => rw [nods, Bool.and_eq_true, ih]; simp
mutual
theorem nod_lay : ∀ {v : Val} {d : PyData}, nod v = true → toD v = some d → d.canLay0 = true
  | .int _, d, _, e => by rw [toD] at e; cases e; rfl
  | .non, d, _, e => by rw [toD] at e; cases e; rfl
  | .bl _, d, _, e => by rw [toD] at e; cases e; rfl
  | .str _, _, h, _ => by simp [nod] at h
  | .tup xs, d, h, e => by
    rw [toD] at e
    cases e2 : toDs xs with
    | none => rw [e2] at e; cases e
    | some ds =>
      rw [e2] at e; cases e
      rw [nod] at h
      rw [PyData.canLay0]; exact nods_lay h e2
  | .lst xs, d, h, e => by
    rw [toD] at e
    cases e2 : toDs xs with
    | none => rw [e2] at e; cases e
    | some ds =>
      rw [e2] at e; cases e
      rw [nod] at h
      rw [PyData.canLay0]; exact nods_lay h e2
  | .fz _, _, h, _ => by simp [nod] at h
  | .dct _, _, h, _ => by simp [nod] at h
  | .loc _, _, h, _ => by simp [nod] at h
  | .fn _, _, h, _ => by simp [nod] at h
theorem nods_lay : ∀ {xs : List Val} {ds : List PyData}, nods xs = true → toDs xs = some ds → PyData.canLayAll0 ds = true
  | [], ds, _, e => by rw [toDs] at e; cases e; rfl
  | x :: xs, ds, h, e => by
    rw [nods, Bool.and_eq_true] at h
    rw [toDs] at e
    cases e1 : toD x with
    | none => rw [e1] at e; cases e
    | some d =>
      cases e2 : toDs xs with
      | none => rw [e1, e2] at e; cases e
      | some ds =>
        rw [e1, e2] at e; cases e
        rw [PyData.canLayAll0, nod_lay h.1 e1, nods_lay h.2 e2]; rfl
end
theorem eqq_refl {v : Val} (hv : nod v = true) (fv : fine v = true) (dv : dp v ≤ 60) : eqq v v = some true := by
  obtain ⟨d, e1, _, p1, _⟩ := fine_ok fv
  have l := nod_lay hv e1
  have s1 : SeqAt.shaped d = true := by unfold SeqAt.shaped; rw [l, decide_eq_true (by omega)]; rfl
  have de : dataEq v v = some true := by
    rw [dataEq, e1]
    dsimp only
    rw [s1, SeqAt.eqv_refl d l]; rfl
  have sh : shortEq v v = none ∨ shortEq v v = some true := by
    cases v with
    | tup xs =>
      cases xs with
      | nil => exact .inr rfl
      | cons x xs => exact .inl rfl
    | lst xs => exact .inl (if_pos rfl)
    | str x => simp [nod] at hv
    | _ => exact .inl rfl
  unfold eqq
  rcases sh with e | e
  · rw [e]; exact de
  · rw [e]
theorem nod_ints (ns : List Int) : nods (iV ns) = true := nods_iff.mpr fun x hx => by
  obtain ⟨i, _, rfl⟩ := List.mem_map.mp hx; rfl
theorem nod_bools (bs : List Bool) : nods (bs.map .bl) = true := nods_iff.mpr fun x hx => by
  obtain ⟨i, _, rfl⟩ := List.mem_map.mp hx; rfl
theorem nod_opts (os : List (Option Int)) : nods (os.map optV) = true := nods_iff.mpr fun x hx => by
  obtain ⟨i, _, rfl⟩ := List.mem_map.mp hx
  cases i <;> rfl
/-! ### other names -/
/-- another name for each thing of S, no two the same -/
structure Rnm (f : Int → Int) (S : Int → Prop) : Prop where
  b : f (-1) = -1
  bd : ∀ x, S x → 0 ≤ f x ∧ f x ≤ 99
  inj : ∀ x y, S x → S y → f x = f y → x = y
/-- a row of such things -/
def InS (S : Int → Prop) (row : List Int) : Prop := ∀ x ∈ row, x = -1 ∨ S x
section
variable {f : Int → Int} {S : Int → Prop}
theorem Rnm.inj' (R : Rnm f S) {x y : Int} (hx : x = -1 ∨ S x) (hy : y = -1 ∨ S y) (e : f x = f y) : x = y := by
  rcases hx with rfl | hx <;> rcases hy with rfl | hy
  · rfl
  · rw [R.b] at e; have := (R.bd y hy).1; omega
  · rw [R.b] at e; have := (R.bd x hx).1; omega
  · exact R.inj x y hx hy e
theorem Rnm.mem (R : Rnm f S) {row : List Int} (h : InS S row) {t : Int} (ht : t = -1 ∨ S t) : f t ∈ row.map f ↔ t ∈ row := by
  rw [List.mem_map]
  constructor
  · rintro ⟨x, hx, e⟩
    rw [← R.inj' (h x hx) ht e]; exact hx
  · exact fun hx => ⟨t, hx, rfl⟩
theorem Rnm.idx (R : Rnm f S) {t : Int} (ht : t = -1 ∨ S t) : ∀ {row : List Int}, InS S row → (row.map f).idxOf (f t) = row.idxOf t
  | [], _ => rfl
  | x :: row, h => by
    rw [List.map_cons, List.idxOf_cons, List.idxOf_cons, R.idx ht fun y hy => h y (List.mem_cons_of_mem _ hy)]
    have e : (f x == f t) = (x == t) := by
      rw [Bool.eq_iff_iff, beq_iff_eq, beq_iff_eq]
      exact ⟨fun z => R.inj' (h x List.mem_cons_self) ht z, fun z => by rw [z]⟩
    rw [e]
theorem gt_mapf {row : List Int} {j : Nat} (h : j < row.length) : gt (row.map f) j = f (gt row j) := by
  unfold gt
  rw [List.getD_eq_getElem?_getD, List.getElem?_map, List.getD_eq_getElem?_getD, List.getElem?_eq_getElem h]; rfl
theorem arr_mapf {row : List Int} {ord : List Nat} (h : ∀ a ∈ ord, a < row.length) : arrT (row.map f) ord = (arrT row ord).map f := by
  unfold arrT
  rw [List.map_map]
  exact List.map_congr_left fun a ha => gt_mapf (h a ha)
theorem arr_in {row : List Int} {ord : List Nat} (h : ∀ a ∈ ord, a < row.length) (hS : InS S row) : InS S (arrT row ord) := fun x hx => by
  obtain ⟨a, ha, rfl⟩ := List.mem_map.mp hx
  exact hS _ (gt_mem (h a ha))
theorem set_in {row : List Int} {j : Nat} {t : Int} (ht : S t) (hS : InS S row) : InS S (row.set j t) := fun x hx => by
  rcases List.mem_or_eq_of_mem_set hx with h | rfl
  · exact hS x h
  · exact .inr ht
theorem Rnm.place (R : Rnm f S) {L : Lr} {row : List Int} (h : InS S row) : placeT L (row.map f) = placeT L row := by
  unfold placeT
  have m := R.mem h (t := -1) (.inl rfl)
  rw [R.b] at m
  have i := R.idx (t := -1) (.inl rfl) h
  rw [R.b] at i
  by_cases e : -1 ∈ row
  · rw [if_pos e, if_pos (m.mpr e), i]
  · rw [if_neg e, if_neg (fun z => e (m.mp z))]
theorem hit_ord {r : Ru} (hr : r.ok) {lab : Nat} (hl : lab < r.rows.length) {j : Nat} (hj : j < r.p) : ∀ a ∈ ((r.at lab).hit j).ord, a < r.p := by
  have h := (hr.at hl).1
  have : ((r.at lab).hit j) ∈ (r.at lab).hits := getD_mem (by rw [h.1]; exact hj)
  exact (ord_lt (h.2 _ this).1).2
theorem come_ord {r : Ru} (hr : r.ok) {lab : Nat} (hl : lab < r.rows.length) {j : Nat} (hj : j < r.p) : ∀ a ∈ ((r.at lab).come j).ord, a < r.p := by
  have h := (hr.at hl).2.2
  have : ((r.at lab).come j) ∈ (r.at lab).comes := getD_mem (by rw [h.1]; exact hj)
  exact (ord_lt (h.2 _ this).1).2
def mapRes (f : Int → Int) (x : Bool × Option Int × List Int × Nat) : Bool × Option Int × List Int × Nat := (x.1, x.2.1.map f, x.2.2.1.map f, x.2.2.2)
theorem Rnm.step (R : Rnm f S) {r : Ru} (hr : r.ok) {row : List Int} {lab : Nat} (hs : StOk r row lab) (h : InS S row) {t : Int} (ht : S t) (ht0 : 0 ≤ t) :
    stepT r (row.map f) lab (f t) = mapRes f (stepT r row lab t) ∧ InS S (stepT r row lab t).2.2.1 ∧ ∀ x, (stepT r row lab t).2.1 = some x → S x := by
  have len := hs.len
  unfold stepT mapRes
  by_cases e : t ∈ row
  · rw [if_pos ((R.mem h (.inr ht)).mpr e), if_pos e, R.idx (.inr ht) h]
    have hj : row.idxOf t < r.p := by rw [← len]; exact List.idxOf_lt_length_iff.mpr e
    have ho := hit_ord hr hs.lab hj
    rw [← len] at ho
    refine ⟨by rw [arr_mapf ho]; rfl, arr_in ho h, fun x hx => by cases hx⟩
  · rw [if_neg (fun z => e ((R.mem h (.inr ht)).mp z)), if_neg e, R.place h]
    have hj := place_lt hr hs
    have ho := come_ord hr hs.lab hj
    generalize placeT (r.at lab) row = j at *
    rw [← len] at hj ho
    have gm := gt_mem hj
    have ho' : ∀ a ∈ ((r.at lab).come j).ord, a < (row.set j t).length := by rw [List.length_set]; exact ho
    have eg : (f (gt row j) = -1) ↔ gt row j = -1 := ⟨fun z => R.inj' (h _ gm) (.inl rfl) (by rw [R.b]; exact z), fun z => by rw [z, R.b]⟩
    refine ⟨?_, arr_in ho' (set_in ht h), fun x hx => ?_⟩
    · rw [gt_mapf hj]
      have st : (row.map f).set j (f t) = (row.set j t).map f := by rw [List.map_set]
      rw [st, arr_mapf ho']
      by_cases z : gt row j = -1
      · rw [if_pos z, if_pos (eg.mpr z)]; rfl
      · rw [if_neg z, if_neg (fun q => z (eg.mp q))]; rfl
    · dsimp only at hx
      split at hx
      · cases hx
      · rename_i z
        cases hx
        exact (h _ gm).resolve_left z
theorem Rnm.run (R : Rnm f S) {r : Ru} (hr : r.ok) : ∀ {ws row : List Int} {lab : Nat}, StOk r row lab → InS S row → (∀ t ∈ ws, S t) → (∀ t ∈ ws, 0 ≤ t ∧ t ≤ 99) →
    runT r (row.map f) lab (ws.map f) = (((runT r row lab ws).1.1.map f, (runT r row lab ws).1.2), (runT r row lab ws).2.1, (runT r row lab ws).2.2.map (Option.map f)) ∧ InS S (runT r row lab ws).1.1 ∧ ∀ o ∈ (runT r row lab ws).2.2, ∀ x, o = some x → S x
  | [], row, lab, _, h, _, _ => ⟨rfl, h, fun o ho => by simp [runT] at ho⟩
  | t :: ts, row, lab, hs, h, hw, hb => by
    obtain ⟨e, i1, i2⟩ := R.step hr hs h (hw t List.mem_cons_self) (hb t List.mem_cons_self).1
    have so := stepOk hr hs (hb t List.mem_cons_self).1 (hb t List.mem_cons_self).2
    obtain ⟨e2, j1, j2⟩ := R.run hr (ws := ts) (row := (stepT r row lab t).2.2.1) (lab := (stepT r row lab t).2.2.2) so i1 (fun x hx => hw x (List.mem_cons_of_mem _ hx)) (fun x hx => hb x (List.mem_cons_of_mem _ hx))
    rw [List.map_cons, runT, runT, e]
    have m1 : (mapRes f (stepT r row lab t)).2.2.1 = (stepT r row lab t).2.2.1.map f := rfl
    have m2 : (mapRes f (stepT r row lab t)).2.2.2 = (stepT r row lab t).2.2.2 := rfl
    rw [m1, m2, e2]
    refine ⟨rfl, j1, fun o ho x hx => ?_⟩
    rcases List.mem_cons.mp ho with rfl | ho
    · exact i2 x hx
    · exact j2 o ho x hx
theorem sort_perm {as bs : List Int} (h : as.Perm bs) : as.mergeSort (fun a b => decide (a ≤ b)) = bs.mergeSort (fun a b => decide (a ≤ b)) := by
  refine List.Perm.eq_of_pairwise (le := fun a b => decide (a ≤ b) = true) (fun a b _ _ h1 h2 => ?_) (List.pairwise_mergeSort (fun a b c h1 h2 => ?_) (fun a b => ?_) _) (List.pairwise_mergeSort (fun a b c h1 h2 => ?_) (fun a b => ?_) _) (((List.mergeSort_perm _ _).trans h).trans (List.mergeSort_perm _ _).symm)
  · simp only [decide_eq_true_eq] at h1 h2; omega
  · simp only [decide_eq_true_eq] at h1 h2 ⊢; omega
  · simp only [Bool.or_eq_true, decide_eq_true_eq]; omega
  · simp only [decide_eq_true_eq] at h1 h2 ⊢; omega
  · simp only [Bool.or_eq_true, decide_eq_true_eq]; omega
theorem Rnm.things (R : Rnm f S) {row : List Int} (h : InS S row) : ((thingsT row).map f).mergeSort (fun a b => decide (a ≤ b)) = thingsT (row.map f) := by
  unfold thingsT
  rw [sort_perm ((List.mergeSort_perm _ _).map f)]
  congr 1
  rw [List.filter_map]
  congr 1
  apply List.filter_congr
  intro x hx
  have : (f x == -1) = (x == -1) := by
    rw [Bool.eq_iff_iff, beq_iff_eq, beq_iff_eq]
    exact ⟨fun z => R.inj' (h x hx) (.inl rfl) (by rw [R.b]; exact z), fun z => by rw [z, R.b]⟩
  show (!(x == -1)) = !(f x == -1)
  rw [this]
end
end Gz
/-! the law's dict of other names -/
namespace Gz
open PySem L2
def dV (l : List (Int × Int)) : List (Key × Val) := l.map fun p => (.inl p.1, .int p.2)
theorem val_dV {x : Int} : ∀ {l : List (Int × Int)}, valK (dV l) (.inl x) = (l.find? fun p => p.1 == x).map fun p => .int p.2
  | [] => rfl
  | p :: l => by
    have ih := val_dV (x := x) (l := l)
    unfold valK dV at ih ⊢
    rw [List.map_cons, List.find?_cons, List.find?_cons]
    by_cases e : p.1 = x
    · subst e; simp
    · have e1 : (p.1 == x) = false := by simpa using e
      have e2 : decide ((Sum.inl p.1 : Key) = .inl x) = false := by simpa using e
      rw [e1, e2]
      exact ih
theorem put_dV {l : List (Int × Int)} {t y : Int} (h : t ∉ l.map (·.1)) : putV (dV l) (.inl t) (.int y) = dV (l ++ [(t, y)]) := by
  unfold putV
  rw [if_neg]
  · unfold dV; rw [List.map_append]; rfl
  · rw [List.any_eq_true]
    rintro ⟨kv, hk, e⟩
    obtain ⟨p, hp, rfl⟩ := List.mem_map.mp hk
    simp only [decide_eq_true_eq, Sum.inl.injEq] at e
    exact h (by rw [← e]; exact List.mem_map_of_mem hp)
theorem zipLook : ∀ {ts rs : List Int} {x : Int}, x ∈ ts → ts.length ≤ rs.length → ((ts.zip rs).find? fun p => p.1 == x) = some (x, rs.getD (ts.idxOf x) 0)
  | [], _, _, h, _ => by simp at h
  | t :: ts, [], _, _, h => by simp at h
  | t :: ts, r :: rs, x, h, hl => by
    rw [List.zip_cons_cons, List.find?_cons, List.idxOf_cons]
    by_cases e : t = x
    · subst e; simp
    · have e1 : (t == x) = false := by simpa using e
      rw [e1]
      have hm : x ∈ ts := (List.mem_cons.mp h).resolve_left fun z => e z.symm
      rw [zipLook hm (by simpa using hl)]
      simp
section
variable {T : List Def} {k i nd nx n : Nat} {s : Sto} {q : Int}
theorem othersFor {F : FT} {a b : Option Slot} : ∀ {ts rs : List Int} {acc : List (Int × Int)} {y : Option Slot}, ts.Nodup → (∀ t ∈ ts, t ∉ acc.map (·.1)) → ts.length ≤ rs.length → acc.length + ts.length ≤ 1000 →
    ∃ y' rs', forLoop (turnB F [4] (OthersD_b0 nx)) (iV ts) [a, b, some (.own (iV rs.reverse)), some (.dic (dV acc)), y] s = .ok .next [a, b, some (.own (iV rs')), some (.dic (dV (acc ++ ts.zip rs))), y'] s
  | [], rs, acc, y, _, _, _, _ => ⟨y, rs.reverse, by show forLoop _ [] _ _ = _; rw [forLoop, List.zip_nil_left, List.append_nil]⟩
  | t :: ts, [], _, _, _, _, h, _ => by simp at h
  | t :: ts, r :: rs, acc, y, hd, hn, hl, hz => by
    rw [List.nodup_cons] at hd
    simp only [List.length_cons] at hl hz
    obtain ⟨y', rs', e⟩ := othersFor (F := F) (a := a) (b := b) (ts := ts) (rs := rs) (acc := acc ++ [(t, r)]) (y := some (.val (.int t))) hd.2 (fun x hx => by
      rw [List.map_append, List.mem_append]
      rintro (z | z)
      · exact hn x (List.mem_cons_of_mem _ hx) z
      · simp only [List.map_cons, List.map_nil, List.mem_singleton] at z
        subst z
        exact hd.1 hx) (by omega) (by simp; omega)
    refine ⟨y', rs', ?_⟩
    show forLoop _ (.int t :: iV ts) _ _ = _
    have pv := put_dV (l := acc) (t := t) (y := r) (hn t List.mem_cons_self)
    have rv : iV (r :: rs).reverse = iV rs.reverse ++ [.int r] := by unfold iV; simp
    have hz2 : (dV acc).length < sizeLine := by unfold dV; rw [List.length_map]; exact small_line (by omega)
    have tb : turnB F [4] (OthersD_b0 nx) (.int t) [a, b, some (.own (iV (r :: rs).reverse)), some (.dic (dV acc)), y] s = .ok .next [a, b, some (.own (iV rs.reverse)), some (.dic (dV (acc ++ [(t, r)]))), some (.val (.int t))] s := by
      rw [rv]
      generalize iV rs.reverse = IR at *
      simp -implicitDefEqProofs [turnB, OthersD_b0, hz2, pv]
    rw [forLoop, tb, bind_ok]
    dsimp only
    rw [e, List.zip_cons_cons, List.append_assoc]
    rfl
theorem rng100 : (rngI 0 100).map Val.int = iV (rngI 0 100) := rfl
theorem others (hD : T[nd]? = some Draw) (hX : T[nx]? = some (MixD nd)) (hO : T[n]? = some (OthersD nx)) {ws : List Int} (hl : ws.length ≤ 60) (hb : ∀ t ∈ ws, 0 ≤ t ∧ t ≤ 99) (hp : Pen s i q) (hn : q + 200 < 1000000000000000000) :
    ∃ kvs f s', callN T (k + 3) n [.loc i, .tup (iV ws)] s = .ok (.fd kvs) s' ∧ Rnm f (· ∈ ws) ∧ (∀ x, x = -1 ∨ x ∈ ws → valK kvs (.inl x) = some (.int (f x))) ∧ Pen s' i (q + 100) ∧ s'.length = s.length := by
  have rl : (rngI 0 100).length = 100 := by decide
  obtain ⟨ys, s1, e1, pm, p1, l1⟩ := mixed (k := k) (v := .lst (iV (rngI 0 100))) (.inl rfl) hX hD hp (by rw [iV_len, rl]; omega) (by rw [iV_len, rl]; omega)
  obtain ⟨ms, rfl, pm2⟩ := iV_perm pm
  rw [iV_len, rl] at p1
  have ml : ms.length = 100 := by rw [pm2.length_eq, rl]
  have nr : (rngI 0 100).Nodup := by decide
  have md : ms.reverse.Nodup := (List.reverse_perm ms).nodup_iff.mpr (pm2.nodup_iff.mpr nr)
  have mb : ∀ x ∈ ms.reverse, 0 ≤ x ∧ x ≤ 99 := fun x hx => by
    have := rng_mem.mp (pm2.mem_iff.mp (List.mem_reverse.mp hx)); omega
  generalize hrs : ms.reverse = rs at *
  have hms : ms = rs.reverse := by rw [← hrs, List.reverse_reverse]
  have rl2 : rs.length = 100 := by rw [← hrs, List.length_reverse, ml]
  obtain ⟨ts, hts⟩ : ∃ ts, (dedI ws).mergeSort (fun a b => decide (a ≤ b)) = ts := ⟨_, rfl⟩
  have tp : ts.Perm (dedI ws) := by rw [← hts]; exact List.mergeSort_perm _ _
  have td : ts.Nodup := tp.nodup_iff.mpr (dedI_nodup ws)
  have tm : ∀ x, x ∈ ts ↔ x ∈ ws := fun x => by rw [tp.mem_iff, dedI_mem]
  have tl : ts.length ≤ 60 := by
    have h1 := tp.length_eq
    have h2 := PyProof.Rows.firstMet_length_le (fun i => ws.getD i 0) ws.length
    rw [dedI_met] at h2
    omega
  have tn : (-1 : Int) ∉ ts := fun z => by have := hb _ ((tm _).mp z); omega
  obtain ⟨y', rs', e2⟩ := othersFor (F := callN T (k + 2)) (s := s1) (nx := nx) (a := some (.val (.loc i))) (b := some (.val (.tup (iV ws)))) (ts := ts) (rs := rs) (acc := [(-1, -1)]) (y := none) td (fun t ht z => by
    simp only [List.map_cons, List.map_nil, List.mem_singleton] at z
    subst z; exact tn ht) (by omega) (by simp; omega)
  have e3 : exS (callN T (k + 2)) (OthersD_f0 nx) [some (.val (.loc i)), some (.val (.tup (iV ws))), some (.own (iV rs.reverse)), some (.dic (dV [(-1, -1)])), none] s1 = .ok .next [some (.val (.loc i)), some (.val (.tup (iV ws))), some (.own (iV rs')), some (.dic (dV ([(-1, -1)] ++ ts.zip rs))), y'] s1 := by
    unfold OthersD_f0
    rw [ex_for]
    have im : ints? (iV ws) = some ws := ints_map ws
    have tE : ((dedI ws).mergeSort fun a b => decide (a ≤ b)).map Val.int = iV ts := by rw [hts]; rfl
    have e : evI (callN T (k + 2)) (.seq (.srtSet (.var 1))) [some (.val (.loc i)), some (.val (.tup (iV ws))), some (.own (iV rs.reverse)), some (.dic (dV [(-1, -1)])), none] s1 = .ok (iV ts) [some (.val (.loc i)), some (.val (.tup (iV ws))), some (.own (iV rs.reverse)), some (.dic (dV [(-1, -1)])), none] s1 := by
      generalize iV rs.reverse = IR at *
      simp -implicitDefEqProofs [im, hl, tE]
    rw [e, bind_ok]
    exact e2
  have zl : ∀ x ∈ ts, ((((-1 : Int), (-1 : Int)) :: ts.zip rs).find? fun p => p.1 == x) = some (x, rs.getD (ts.idxOf x) 0) := fun x hx => by
    rw [List.find?_cons]
    have : ((-1 : Int) == x) = false := by rw [beq_eq_false_iff_ne]; intro z; exact tn (z ▸ hx)
    rw [this]
    exact zipLook hx (by omega)
  refine ⟨dV ([(-1, -1)] ++ ts.zip rs), fun x => if x = -1 then -1 else rs.getD (ts.idxOf x) 0, s1, ?_, ⟨rfl, fun x hx => ?_, fun x y hx hy e => ?_⟩, fun x hx => ?_, p1.le (by omega), l1⟩
  · rw [callN_eq hO]
    rw [hms] at e1
    have d1 : dV [(-1, -1)] = [(.inl (-1), .int (-1))] := rfl
    rw [d1] at e3
    have rn : rngOk 0 100 = true := by decide
    have r100 : (rngI 0 100).map Val.int = iV (rngI 0 100) := rfl
    generalize iV rs.reverse = IR at *
    generalize dV ([(-1, -1)] ++ ts.zip rs) = KV at *
    generalize hR : iV (rngI 0 100) = IG at *
    simp -implicitDefEqProofs [runD, OthersD, rn, r100, e1, e3]
  · have hx' := (tm x).mpr hx
    have ne : x ≠ -1 := fun z => tn (z ▸ hx')
    simp only [if_neg ne]
    have il : ts.idxOf x < rs.length := by have := List.idxOf_lt_length_iff.mpr hx'; omega
    exact mb _ (getD_mem il)
  · have hx' := (tm x).mpr hx
    have hy' := (tm y).mpr hy
    have n1 : x ≠ -1 := fun z => tn (z ▸ hx')
    have n2 : y ≠ -1 := fun z => tn (z ▸ hy')
    simp only [if_neg n1, if_neg n2] at e
    have i1 := List.idxOf_lt_length_iff.mpr hx'
    have i2 := List.idxOf_lt_length_iff.mpr hy'
    rw [List.getD_eq_getElem?_getD, List.getD_eq_getElem?_getD, List.getElem?_eq_getElem (by omega), List.getElem?_eq_getElem (by omega)] at e
    have ie : ts.idxOf x = ts.idxOf y := by
      rcases Nat.lt_trichotomy (ts.idxOf x) (ts.idxOf y) with z | z | z
      · exact absurd e (List.pairwise_iff_getElem.mp md _ _ (by omega) (by omega) z)
      · exact z
      · exact absurd e.symm (List.pairwise_iff_getElem.mp md _ _ (by omega) (by omega) z)
    have a := gt_idx hx'
    have b := gt_idx hy'
    rw [ie] at a
    exact a.symm.trans b
  · rw [val_dV]
    rcases hx with rfl | hx
    · rfl
    · have hx' := (tm x).mpr hx
      have ne : x ≠ -1 := fun z => tn (z ▸ hx')
      have := zl x hx'
      show (((((-1 : Int), (-1 : Int)) :: ts.zip rs).find? fun p => p.1 == x).map fun p => Val.int p.2) = _
      rw [this]
      simp [ne]
end
end Gz
/-! generic defs (printed by gz.py --gen) -/
namespace Gz
open PySem L2
def LOrdD_l0 (c_law_whole : Nat) : CE := .lc (.rng .no (.var 1)) [3] (.so (.cmp .notin (.var 3) (.var 0))) (.var 3)
def LOrdD_l1 (c_law_whole : Nat) : CE := .lc (.seq (.var 0)) [2] (.so (.not (.call c_law_whole (.cons (.var 2) (.cons (.cst (.int 0)) (.cons (.bin .sub (.var 1) (.cst (.int 1))) .nil)))))) (.var 2)
/-- _law_is_order(_law_thing, _law_places), slots 0=_law_thing 1=_law_places 2=_law_one 3=_law_place; calls c_law_whole -/
def LOrdD (c_law_whole : Nat) : Def := ⟨2, 4,
    (.cons (.ifs (.or (.not (.isiV 0 "tuple")) (.cmp .ne (.bltV .len 0) (.var 1)))
    (.cons (.ret (.cst (.bl false)))
    .nil)
    .nil)
    (.cons (.ifs (.cmp .ne (LOrdD_l1 c_law_whole) (.lst .nil))
    (.cons (.ret (.cst (.bl false)))
    .nil)
    .nil)
    (.cons (.ret (.cmp .eq (LOrdD_l0 c_law_whole) (.lst .nil)))
    .nil)))⟩
def LMovesD_b0 (c_law_whole c_law_is_order : Nat) : CSs := 
    (.cons (.ifs (.or (.not (.isiV 3 "tuple")) (.or (.cmp .ne (.bltV .len 3) (.cst (.int 2))) (.not (.call c_law_is_order (.cons (.idxV 3 (.cst (.int 0))) (.cons (.var 1) .nil))))))
    (.cons (.ret (.cst (.bl false)))
    .nil)
    .nil)
    (.cons (.ifs (.not (.call c_law_whole (.cons (.idxV 3 (.cst (.int 1))) (.cons (.cst (.int 0)) (.cons (.bin .sub (.var 2) (.cst (.int 1))) .nil)))))
    (.cons (.ret (.cst (.bl false)))
    .nil)
    .nil)
    .nil))
def LMovesD_f0 (c_law_whole c_law_is_order : Nat) : CS := .for_ [3] (.seq (.var 0)) (LMovesD_b0 c_law_whole c_law_is_order)
/-- _law_are_moves(_law_thing, _law_places, _law_labels), slots 0=_law_thing 1=_law_places 2=_law_labels 3=_law_one; calls c_law_whole c_law_is_order -/
def LMovesD (c_law_whole c_law_is_order : Nat) : Def := ⟨3, 4,
    (.cons (.ifs (.or (.not (.isiV 0 "tuple")) (.cmp .ne (.bltV .len 0) (.var 1)))
    (.cons (.ret (.cst (.bl false)))
    .nil)
    .nil)
    (.cons (LMovesD_f0 c_law_whole c_law_is_order)
    (.cons (.ret (.cst (.bl true)))
    .nil)))⟩
def LRuleD_b0 (c_law_are_moves c_law_whole : Nat) : CSs := 
    (.cons (.ifs (.or (.not (.isiV 3 "tuple")) (.or (.cmp .ne (.bltV .len 3) (.cst (.int 3))) (.not (.call c_law_whole (.cons (.idxV 3 (.cst (.int 1))) (.cons (.cst (.int 0)) (.cons (.bin .sub (.var 1) (.cst (.int 1))) .nil)))))))
    (.cons (.ret (.cst (.bl false)))
    .nil)
    .nil)
    (.cons (.ifs (.or (.not (.call c_law_are_moves (.cons (.idxV 3 (.cst (.int 0))) (.cons (.var 1) (.cons (.bltV .len 2) .nil))))) (.not (.call c_law_are_moves (.cons (.idxV 3 (.cst (.int 2))) (.cons (.var 1) (.cons (.bltV .len 2) .nil))))))
    (.cons (.ret (.cst (.bl false)))
    .nil)
    .nil)
    .nil))
def LRuleD_f0 (c_law_are_moves c_law_whole : Nat) : CS := .for_ [3] (.seq (.var 2)) (LRuleD_b0 c_law_are_moves c_law_whole)
/-- _law_is_rule(_law_thing), slots 0=_law_thing 1=_law_places 2=_law_rows 3=_law_row; calls c_law_are_moves c_law_whole -/
def LRuleD (c_law_are_moves c_law_whole : Nat) : Def := ⟨1, 4,
    (.cons (.ifs (.or (.not (.isiV 0 "tuple")) (.or (.cmp .ne (.bltV .len 0) (.cst (.int 2))) (.not (.call c_law_whole (.cons (.idxV 0 (.cst (.int 0))) (.cons (.cst (.int 1)) (.cons (.cst (.int 4)) .nil)))))))
    (.cons (.ret (.cst (.bl false)))
    .nil)
    .nil)
    (.cons (.asgT [1, 2] (.var 0))
    (.cons (.ifs (.or (.not (.isiV 2 "tuple")) (.not (.chn .le .le (.cst (.int 1)) (.bltV .len 2) (.cst (.int 16)))))
    (.cons (.ret (.cst (.bl false)))
    .nil)
    .nil)
    (.cons (LRuleD_f0 c_law_are_moves c_law_whole)
    (.cons (.ret (.cst (.bl true)))
    .nil)))))⟩
def FamilyD_l0 (c_need_places c_queue c_recent c_newest c_chance : Nat) (x_NoRule : CS) : CE := .lc (.rng (.so (.cst (.int 1))) (.bin .add (.var 1) (.cst (.int 1)))) [2] .no (.callv (.var 0) (.cons (.var 2) .nil))
/-- family(rule_of, most), slots 0=rule_of 1=most 2=places; calls c_need_places c_queue c_recent c_newest c_chance x_NoRule -/
def FamilyD (c_need_places c_queue c_recent c_newest c_chance : Nat) (x_NoRule : CS) : Def := ⟨2, 3,
    (.cons (.ifs (.inF true (.var 0) [c_queue, c_recent, c_newest, c_chance])
    (.cons x_NoRule
    .nil)
    .nil)
    (.cons (.exp (.call c_need_places (.cons (.var 1) .nil)))
    (.cons (.ret (.blt .tuple (.cons (FamilyD_l0 c_need_places c_queue c_recent c_newest c_chance x_NoRule) .nil)))
    .nil)))⟩
def IsFamD_l0 (c_is_rule : Nat) : CE := .lc (.enum (.var 0)) [1, 2] .no (.and (.call c_is_rule (.cons (.var 2) .nil)) (.cmp .eq (.idxV 2 (.cst (.int 0))) (.bin .add (.var 1) (.cst (.int 1)))))
/-- is_family(thing), slots 0=thing 1=at 2=rule; calls c_is_rule -/
def IsFamD (c_is_rule : Nat) : Def := ⟨1, 3,
    (.cons (.ifs (.or (.not (.isiV 0 "tuple")) (.not (.chn .le .le (.cst (.int 1)) (.bltV .len 0) (.cst (.int 4)))))
    (.cons (.ret (.cst (.bl false)))
    .nil)
    .nil)
    (.cons (.ret (.blt .all (.cons (IsFamD_l0 c_is_rule) .nil)))
    .nil))⟩
def LIsFamD_l0 (c_law_is_rule : Nat) : CE := .lc (.seq (.var 0)) [1] .no (.idxV 1 (.cst (.int 0)))
def LIsFamD_l1 (c_law_is_rule : Nat) : CE := .lc (.seq (.var 0)) [1] .no (.call c_law_is_rule (.cons (.var 1) .nil))
/-- _law_is_family(_law_thing), slots 0=_law_thing 1=_law_rule; calls c_law_is_rule -/
def LIsFamD (c_law_is_rule : Nat) : Def := ⟨1, 2,
    (.cons (.ifs (.or (.not (.isiV 0 "tuple")) (.or (.not (.chn .le .le (.cst (.int 1)) (.bltV .len 0) (.cst (.int 4)))) (.not (.blt .all (.cons (LIsFamD_l1 c_law_is_rule) .nil)))))
    (.cons (.ret (.cst (.bl false)))
    .nil)
    .nil)
    (.cons (.ret (.cmp .eq (LIsFamD_l0 c_law_is_rule) (.rng false (.so (.cst (.int 1))) (.so (.bin .add (.bltV .len 0) (.cst (.int 1)))))))
    .nil))⟩
end Gz
/-! the laws' own is_rule -/
namespace Gz
open PySem L2
/-- a loop that ends at the first that is not so -/
theorem for_allF {f : Val → Rho → Sto → Rs Fl} {p : Val → Bool} {s : Sto} (I : Rho → Prop) : ∀ {xs : List Val} (_ : ∀ x ∈ xs, ∀ r, I r → ∃ r', f x r s = .ok (if p x then .next else .ret (.val (.bl false))) r' s ∧ I r') {r : Rho} (_ : I r), ∃ r', forLoop f xs r s = .ok (if xs.all p then .next else .ret (.val (.bl false))) r' s
  | [], _, r, _ => ⟨r, by rw [forLoop]; rfl⟩
  | x :: xs, h, r, hr => by
    obtain ⟨r1, e1, h1⟩ := h x List.mem_cons_self r hr
    cases hp : p x with
    | false =>
      refine ⟨r1, ?_⟩
      rw [forLoop, e1, hp, List.all_cons, hp]; rfl
    | true =>
      obtain ⟨r2, e2⟩ := for_allF I (fun y hy => h y (List.mem_cons_of_mem _ hy)) h1
      refine ⟨r2, ?_⟩
      rw [forLoop, e1, hp, List.all_cons, hp]
      exact e2
theorem empty_all (p : Val → Bool) (xs : List Val) : (xs.filter fun x => !p x).isEmpty = xs.all p := by
  induction xs with
  | nil => rfl
  | cons x xs ih =>
    cases h : p x
    · simp [h]
    · simp only [List.filter, h, Bool.not_true, List.all_cons, Bool.true_and]
      exact ih
/-! ### orders, by looking -/
theorem lordL1 {T : List Def} {cw : Nat} (tw : T[cw]? = some WholeD) {k : Nat} {s : Sto} {xs : List Val} {p : Int} (hx : ∀ x ∈ xs, fine x = true) (hl : xs.length ≤ 1000) : evE (callN T (k + 1)) (LOrdD_l1 cw) [some (.val (.tup xs)), some (.val (.int p)), none, none] s = .ok (.fr (xs.filter fun x => !isW 0 (p - 1) x)) [some (.val (.tup xs)), some (.val (.int p)), none, none] s := by
  unfold LOrdD_l1
  rw [ev_lc]
  have e : evI (callN T (k + 1)) (.seq (.var 0)) [some (.val (.tup xs)), some (.val (.int p)), none, none] s = .ok xs [some (.val (.tup xs)), some (.val (.int p)), none, none] s := by simp -implicitDefEqProofs
  rw [e, bind_ok, lc_filter (p := fun x => !isW 0 (p - 1) x) (g := id) [] (by have := le_line (n := xs.length) hl; simpa using this) ?_]
  · simp
  · intro x hx'
    cases h : isW 0 (p - 1) x <;> simp -implicitDefEqProofs [turnF, whole tw (hx x hx'), h]
def inL (ns : List Int) : Val → Bool
  | .int i => ns.any (· == i)
  | _ => false
theorem isin_intsN (ns : List Int) (i : Int) : isin (.int i) (.tup (ns.map .int)) = some (ns.any (· == i)) := by
  have e : ns.any (· == i) = decide (i ∈ ns) := by
    rw [Bool.eq_iff_iff, List.any_eq_true, decide_eq_true_eq]
    exact ⟨fun ⟨x, h, q⟩ => by rw [← beq_iff_eq.mp q]; exact h, fun h => ⟨i, h, by simp⟩⟩
  rw [e]
  exact isin_ints i ns
theorem lordL0 {T : List Def} {cw : Nat} {k : Nat} {s : Sto} {ns : List Int} {p : Int} (h1 : 0 ≤ p) (h2 : p ≤ 4) : evE (callN T k) (LOrdD_l0 cw) [some (.val (.tup (ns.map .int))), some (.val (.int p)), none, none] s = .ok (.fr (((rngI 0 p).map Val.int).filter fun x => !inL ns x)) [some (.val (.tup (ns.map .int))), some (.val (.int p)), none, none] s := by
  unfold LOrdD_l0
  rw [ev_lc]
  have e : evI (callN T k) (.rng .no (.var 1)) [some (.val (.tup (ns.map .int))), some (.val (.int p)), none, none] s = .ok ((rngI 0 p).map .int) [some (.val (.tup (ns.map .int))), some (.val (.int p)), none, none] s := by
    simp -implicitDefEqProofs [rng_small h1 (by omega)]
  rw [e, bind_ok, lc_filter (p := fun x => !inL ns x) (g := id) [] (by have := le_line (n := p.toNat) (by omega); rw [List.length_map, rng_len0]; simpa using this) ?_]
  · simp
  · intro x hx
    obtain ⟨i, _, rfl⟩ := List.mem_map.mp hx
    have n1 : cmpop .notin (.int i) (.tup (ns.map .int)) = some (!ns.any (· == i)) := by
      show (isin _ _).map (!·) = _
      rw [isin_intsN]; rfl
    have n2 : isin (.int i) (.tup (ns.map .int)) = some (ns.any (· == i)) := isin_intsN ns i
    cases h : ns.any (· == i) <;> rw [h] at n2 <;> simp -implicitDefEqProofs [turnF, n2, h, inL]
theorem lorder {T : List Def} {cw co : Nat} (tw : T[cw]? = some WholeD) (to : T[co]? = some (LOrdD cw)) {k : Nat} {s : Sto} {v : Val} {p : Int} (hv : fine v = true) (h1 : 1 ≤ p) (h2 : p ≤ 4) : callN T (k + 2) co [v, .int p] s = .ok (.val (.bl (isOrd p v))) s := by
  rw [callN_eq to]
  by_cases ht : ∃ xs, v = .tup xs
  · obtain ⟨xs, rfl⟩ := ht
    rw [fine, fines_iff] at hv
    by_cases hl : (xs.length : Int) = p
    · have l1 := lordL1 tw (k := k) (s := s) (p := p) hv (by omega)
      have ea := empty_all (isW 0 (p - 1)) xs
      cases ha : xs.all (isW 0 (p - 1)) with
      | false =>
        rw [ha] at ea
        have e : isOrd p (.tup xs) = false := by rw [ord_sort (by omega), ha]; simp
        simp -implicitDefEqProofs [-List.isEmpty_iff, runD, LOrdD, isiv, hl, l1, ea, e]
      | true =>
        rw [ha] at ea
        obtain ⟨ns, rfl, hb⟩ := allW ha
        have l0 := lordL0 (cw := cw) (T := T) (k := k + 1) (s := s) (ns := ns) (p := p) (by omega) h2
        have hl' : (ns.length : Int) = p := by simpa using hl
        have e : isOrd p (.tup (ns.map .int)) = (((rngI 0 p).map Val.int).filter fun x => !inL ns x).isEmpty := by
          rw [empty_all, isOrd, ints_map]
          dsimp only
          rw [perm_all h1 h2 hl' hb, List.all_map]
          congr 1
        simp -implicitDefEqProofs [-List.isEmpty_iff, runD, LOrdD, isiv, hl', l1, ea, l0, e]
    · have e : isOrd p (.tup xs) = false := by rw [ord_sort (by omega), decide_eq_false hl]; rfl
      simp -implicitDefEqProofs [runD, LOrdD, isiv, hl, e]
  · have hn := notT_of hv fun xs e => ht ⟨xs, e⟩
    have e : isOrd p v = false := by cases v <;> first | rfl | exact absurd ⟨_, rfl⟩ ht
    simp -implicitDefEqProofs [-deref, runD, LOrdD, hn.1, hn.2, e]
theorem lmovesF {T : List Def} {cw co : Nat} (tw : T[cw]? = some WholeD) (to : T[co]? = some (LOrdD cw)) {k : Nat} {s : Sto} {xs : List Val} {p l : Int} (hx : ∀ x ∈ xs, fine x = true) (h1 : 1 ≤ p) (h2 : p ≤ 4) : ∃ r, exS (callN T (k + 2)) (LMovesD_f0 cw co) [some (.val (.tup xs)), some (.val (.int p)), some (.val (.int l)), none] s = .ok (if xs.all (isMove p l) then .next else .ret (.val (.bl false))) r s := by
  unfold LMovesD_f0
  rw [ex_for]
  have e : evI (callN T (k + 2)) (.seq (.var 0)) [some (.val (.tup xs)), some (.val (.int p)), some (.val (.int l)), none] s = .ok xs [some (.val (.tup xs)), some (.val (.int p)), some (.val (.int l)), none] s := by simp -implicitDefEqProofs
  rw [e, bind_ok]
  refine for_allF (fun r => ∃ x3, r = [some (.val (.tup xs)), some (.val (.int p)), some (.val (.int l)), x3]) (fun x hx' r hr => ?_) ⟨none, rfl⟩
  obtain ⟨x3, rfl⟩ := hr
  have fx := hx x hx'
  refine ⟨[some (.val (.tup xs)), some (.val (.int p)), some (.val (.int l)), some (.val x)], ?_, _, rfl⟩
  by_cases ht : ∃ ys, x = .tup ys
  · obtain ⟨ys, rfl⟩ := ht
    rw [fine, fines_iff] at fx
    by_cases hl : ys.length = 2
    · match ys, hl with
      | [a, b], _ =>
        have o := lorder tw to (k := k) (s := s) (fx a (by simp)) h1 h2
        have w := whole (k := k + 1) (s := s) (lo := 0) (hi := l - 1) tw (fx b (by simp))
        have a0 : atI [a, b] 0 = some a := rfl
        have a1 : atI [a, b] 1 = some b := rfl
        cases h : isOrd p a <;> cases h' : isW 0 (l - 1) b <;> simp -implicitDefEqProofs [turnB, LMovesD_b0, LRuleD_b0, isiv, a0, a1, o, w, isMove, h, h']
    · have hz : ¬ ((ys.length : Int) = 2) := by omega
      have e : isMove p l (.tup ys) = false := by
        match ys, hl with
        | [], _ => rfl
        | [_], _ => rfl
        | _ :: _ :: _ :: _, _ => rfl
      simp -implicitDefEqProofs [turnB, LMovesD_b0, LRuleD_b0, isiv, hz, beq_eq_false_iff_ne.mpr hz, e]
  · have hn := notT_of fx fun xs e => ht ⟨xs, e⟩
    have e : isMove p l x = false := by cases x <;> first | rfl | exact absurd ⟨_, rfl⟩ ht
    simp -implicitDefEqProofs [-deref, turnB, LMovesD_b0, LRuleD_b0, hn.1, hn.2, e]
theorem lmoves {T : List Def} {cw co cm : Nat} (tw : T[cw]? = some WholeD) (to : T[co]? = some (LOrdD cw)) (tm : T[cm]? = some (LMovesD cw co)) {k : Nat} {s : Sto} {v : Val} {p l : Int} (hv : fine v = true) (h1 : 1 ≤ p) (h2 : p ≤ 4) : callN T (k + 3) cm [v, .int p, .int l] s = .ok (.val (.bl (areMoves p l v))) s := by
  rw [callN_eq tm]
  by_cases ht : ∃ xs, v = .tup xs
  · obtain ⟨xs, rfl⟩ := ht
    rw [fine, fines_iff] at hv
    by_cases hl : (xs.length : Int) = p
    · obtain ⟨r, e⟩ := lmovesF tw to (k := k) (s := s) (p := p) (l := l) hv h1 h2
      cases h : xs.all (isMove p l) with
      | false =>
        rw [h] at e
        have e : exS (callN T (k + 2)) (LMovesD_f0 cw co) [some (.val (.tup xs)), some (.val (.int p)), some (.val (.int l)), none] s = .ok (.ret (.val (.bl false))) r s := e
        simp -implicitDefEqProofs [runD, LMovesD, isiv, hl, e, areMoves, h]
      | true =>
        rw [h] at e
        have e : exS (callN T (k + 2)) (LMovesD_f0 cw co) [some (.val (.tup xs)), some (.val (.int p)), some (.val (.int l)), none] s = .ok .next r s := e
        simp -implicitDefEqProofs [runD, LMovesD, isiv, hl, e, areMoves, h]
    · simp -implicitDefEqProofs [runD, LMovesD, isiv, hl, areMoves]
  · have hn := notT_of hv fun xs e => ht ⟨xs, e⟩
    have e : areMoves p l v = false := by cases v <;> first | rfl | exact absurd ⟨_, rfl⟩ ht
    simp -implicitDefEqProofs [-deref, runD, LMovesD, hn.1, hn.2, e]
theorem lruleF {T : List Def} {cw co cm : Nat} (tw : T[cw]? = some WholeD) (to : T[co]? = some (LOrdD cw)) (tm : T[cm]? = some (LMovesD cw co)) {k : Nat} {s : Sto} {v : Val} {xs : List Val} {p : Int} (hx : ∀ x ∈ xs, fine x = true) (h1 : 1 ≤ p) (h2 : p ≤ 4) : ∃ r, exS (callN T (k + 3)) (LRuleD_f0 cm cw) [some (.val v), some (.val (.int p)), some (.val (.tup xs)), none] s = .ok (if xs.all (isRow p xs.length) then .next else .ret (.val (.bl false))) r s := by
  unfold LRuleD_f0
  rw [ex_for]
  have e : evI (callN T (k + 3)) (.seq (.var 2)) [some (.val v), some (.val (.int p)), some (.val (.tup xs)), none] s = .ok xs [some (.val v), some (.val (.int p)), some (.val (.tup xs)), none] s := by simp -implicitDefEqProofs
  rw [e, bind_ok]
  refine for_allF (fun r => ∃ x3, r = [some (.val v), some (.val (.int p)), some (.val (.tup xs)), x3]) (fun x hx' r hr => ?_) ⟨none, rfl⟩
  obtain ⟨x3, rfl⟩ := hr
  have fx := hx x hx'
  refine ⟨[some (.val v), some (.val (.int p)), some (.val (.tup xs)), some (.val x)], ?_, _, rfl⟩
  by_cases ht : ∃ ys, x = .tup ys
  · obtain ⟨ys, rfl⟩ := ht
    rw [fine, fines_iff] at fx
    by_cases hl : ys.length = 3
    · match ys, hl with
      | [a, b, c], _ =>
        have m1 := lmoves tw to tm (k := k) (s := s) (l := xs.length) (fx a (by simp)) h1 h2
        have m2 := lmoves tw to tm (k := k) (s := s) (l := xs.length) (fx c (by simp)) h1 h2
        have w := whole (k := k + 2) (s := s) (lo := 0) (hi := p - 1) tw (fx b (by simp))
        have a0 : atI [a, b, c] 0 = some a := rfl
        have a1 : atI [a, b, c] 1 = some b := rfl
        have a2 : atI [a, b, c] 2 = some c := rfl
        cases h : areMoves p xs.length a <;> cases h' : isW 0 (p - 1) b <;> cases h'' : areMoves p xs.length c <;> simp -implicitDefEqProofs [turnB, LMovesD_b0, LRuleD_b0, isiv, a0, a1, a2, m1, m2, w, isRow, h, h', h'']
    · have hz : ¬ ((ys.length : Int) = 3) := by omega
      have e : isRow p xs.length (.tup ys) = false := by
        match ys, hl with
        | [], _ => rfl
        | [_], _ => rfl
        | [_, _], _ => rfl
        | _ :: _ :: _ :: _ :: _, _ => rfl
      simp -implicitDefEqProofs [turnB, LMovesD_b0, LRuleD_b0, isiv, hz, beq_eq_false_iff_ne.mpr hz, e]
  · have hn := notT_of fx fun xs e => ht ⟨xs, e⟩
    have e : isRow p xs.length x = false := by cases x <;> first | rfl | exact absurd ⟨_, rfl⟩ ht
    simp -implicitDefEqProofs [-deref, turnB, LMovesD_b0, LRuleD_b0, hn.1, hn.2, e]
theorem lrule {T : List Def} {cw co cm cr : Nat} (tw : T[cw]? = some WholeD) (to : T[co]? = some (LOrdD cw)) (tm : T[cm]? = some (LMovesD cw co)) (tr : T[cr]? = some (LRuleD cm cw)) {k : Nat} {s : Sto} {v : Val} (hv : fine v = true) : callN T (k + 4) cr [v] s = .ok (.val (.bl (isRule v))) s := by
  rw [callN_eq tr]
  by_cases ht : ∃ xs, v = .tup xs
  · obtain ⟨xs, rfl⟩ := ht
    rw [fine, fines_iff] at hv
    by_cases hl : xs.length = 2
    · match xs, hl with
      | [a, b], _ =>
        have ha := hv a (by simp)
        have hb := hv b (by simp)
        have w := whole (k := k + 2) (s := s) (lo := 1) (hi := 4) tw ha
        have a0 : atI [a, b] 0 = some a := rfl
        cases hw : isW 1 4 a with
        | false =>
          have e : isRule (.tup [a, b]) = false := by
            cases a with
            | int p =>
              have hw' : (decide (1 ≤ p) && decide (p ≤ 4)) = false := hw
              cases b <;> first | rfl | (rw [isRule, hw']; rfl)
            | _ => rfl
          rw [hw] at w
          simp -implicitDefEqProofs [-deref, runD, LRuleD, isT, dT, a0, w, e]
        | true =>
          rw [hw] at w
          cases a with
          | int p =>
            simp only [isW, Bool.and_eq_true, decide_eq_true_eq] at hw
            by_cases hb2 : ∃ ys, b = .tup ys
            · obtain ⟨ys, rfl⟩ := hb2
              rw [fine, fines_iff] at hb
              by_cases c1 : 1 ≤ ys.length
              · by_cases c2 : ys.length ≤ 16
                · have c1' : (1 : Int) ≤ ys.length := by omega
                  have c2' : (ys.length : Int) ≤ 16 := by omega
                  obtain ⟨r, rl⟩ := lruleF tw to tm (k := k) (s := s) (v := .tup [.int p, .tup ys]) hb hw.1 hw.2
                  cases h : ys.all (isRow p ys.length) with
                  | false =>
                    rw [h] at rl
                    have rl : exS (callN T (k + 3)) (LRuleD_f0 cm cw) [some (.val (.tup [.int p, .tup ys])), some (.val (.int p)), some (.val (.tup ys)), none] s = .ok (.ret (.val (.bl false))) r s := rl
                    simp -implicitDefEqProofs [runD, LRuleD, isiv, a0, w, c1, c2, c1', c2', rl, isRule, hw, h]
                  | true =>
                    rw [h] at rl
                    have rl : exS (callN T (k + 3)) (LRuleD_f0 cm cw) [some (.val (.tup [.int p, .tup ys])), some (.val (.int p)), some (.val (.tup ys)), none] s = .ok .next r s := rl
                    simp -implicitDefEqProofs [runD, LRuleD, isiv, a0, w, c1, c2, c1', c2', rl, isRule, hw, h]
                · have c1' : (1 : Int) ≤ ys.length := by omega
                  have c2' : ¬ (ys.length : Int) ≤ 16 := by omega
                  simp -implicitDefEqProofs [runD, LRuleD, isiv, a0, w, c1, c2, c1', c2', isRule]
              · have c1' : ¬ (1 : Int) ≤ ys.length := by omega
                simp -implicitDefEqProofs [runD, LRuleD, isiv, a0, w, c1, c1', isRule]
            · have hn := notT_of hb fun xs e => hb2 ⟨xs, e⟩
              have e : isRule (.tup [.int p, b]) = false := by cases b <;> first | rfl | exact absurd ⟨_, rfl⟩ hb2
              simp -implicitDefEqProofs [-deref, runD, LRuleD, isT, dT, a0, w, hn.1, hn.2, e]
          | _ => cases hw
    · have hz : ¬ ((xs.length : Int) = 2) := by omega
      have e : isRule (.tup xs) = false := by
        unfold isRule
        split
        · rename_i h
          cases h
          exact absurd rfl hl
        · rfl
      simp -implicitDefEqProofs [runD, LRuleD, isiv, hz, beq_eq_false_iff_ne.mpr hz, e]
  · have hn := notT_of hv fun xs e => ht ⟨xs, e⟩
    have e : isRule v = false := by cases v <;> first | rfl | exact absurd ⟨_, rfl⟩ ht
    simp -implicitDefEqProofs [-deref, runD, LRuleD, hn.1, hn.2, e]
end Gz
/-! families -/
namespace Gz
open PySem L2
def fst1 : Val → Int
  | .tup (.int p :: _) => p
  | _ => 0
def famAt : Val → Bool
  | .tup [.int i, x] => isRule x && decide (fst1 x = i + 1)
  | _ => false
def famB : Val → Bool
  | .tup xs => decide (1 ≤ xs.length) && (decide (xs.length ≤ 4) && (numd xs).all famAt)
  | _ => false
theorem isRule_fst {v : Val} (h : isRule v = true) : ∃ r, v = .tup [.int (fst1 v), r] := by
  unfold isRule at h
  split at h
  · exact ⟨_, rfl⟩
  · cases h
theorem fam_zip : ∀ (xs : List Val) (i : Nat), ((xs.zipIdx i).all fun p => isRule p.1 && decide (fst1 p.1 = (p.2 : Int) + 1)) = (xs.all isRule && decide (xs.map fst1 = (List.range' i xs.length).map fun j : Nat => (j : Int) + 1))
  | [], i => by simp
  | x :: xs, i => by
    rw [List.zipIdx_cons, List.all_cons, fam_zip xs (i + 1), List.all_cons, List.length_cons, List.range'_succ, List.map_cons, List.map_cons]
    cases h1 : isRule x
    · simp
    · cases h2 : xs.all isRule
      · simp
      · by_cases h3 : fst1 x = (i : Int) + 1
        · simp [h3]
        · simp [h3]
theorem rng1 {n : Nat} (h : n ≤ 4) : rngI 1 ((n : Int) + 1) = (List.range' 0 n).map fun j : Nat => (j : Int) + 1 := by
  have : n = 0 ∨ n = 1 ∨ n = 2 ∨ n = 3 ∨ n = 4 := by omega
  rcases this with rfl | rfl | rfl | rfl | rfl <;> decide
theorem fam_all {xs : List Val} (h : xs.length ≤ 4) : (numd xs).all famAt = (xs.all isRule && decide (xs.map fst1 = rngI 1 ((xs.length : Int) + 1))) := by
  rw [rng1 h, ← fam_zip]
  unfold numd
  rw [List.all_map]
  congr 1
theorem famL {T : List Def} {k nu : Nat} {s : Sto} (ru : ∀ v, fine v = true → callN T k nu [v] s = .ok (.val (.bl (isRule v))) s) {xs : List Val} (hv : ∀ x ∈ xs, fine x = true) (hl : xs.length ≤ 4) :
    evE (callN T k) (IsFamD_l0 nu) [some (.val (.tup xs)), none, none] s = .ok (.fr ((numd xs).map fun v => .bl (famAt v))) [some (.val (.tup xs)), none, none] s := by
  unfold IsFamD_l0
  rw [ev_lc]
  have e : evI (callN T k) (.enum (.var 0)) [some (.val (.tup xs)), none, none] s = .ok (numd xs) [some (.val (.tup xs)), none, none] s := by simp -implicitDefEqProofs
  rw [e, bind_ok, lc_map (g := fun v => .bl (famAt v)) [] (by have := le_line (n := xs.length) (by omega); rw [numd_len]; simpa using this) ?_]
  · simp
  · intro x hx
    obtain ⟨i, hi⟩ := List.getElem?_of_mem hx
    obtain ⟨y, hy, rfl⟩ := numd_get hi
    have fy := hv y (List.mem_of_getElem? hy)
    cases h : isRule y with
    | false => simp -implicitDefEqProofs [turnF, ru y fy, h, famAt]
    | true =>
      obtain ⟨r, er⟩ := isRule_fst h
      have a0 : atI [.int (fst1 y), r] 0 = some (.int (fst1 y)) := rfl
      have ru' := ru y fy
      rw [h] at ru'
      have f1 : famAt (.tup [.int (i : Int), y]) = decide (fst1 y = (i : Int) + 1) := by rw [famAt, h]; rfl
      rw [f1]
      generalize fst1 y = p at *
      subst er
      by_cases hq : p = (i : Int) + 1
      · subst hq
        simp -implicitDefEqProofs [turnF, ru', a0]
      · simp -implicitDefEqProofs [turnF, ru', a0, hq]
/-- the program's is_family -/
theorem fam {T : List Def} {k nu n : Nat} {s : Sto} (ru : ∀ v, fine v = true → callN T k nu [v] s = .ok (.val (.bl (isRule v))) s) (hF : T[n]? = some (IsFamD nu)) {v : Val} (hv : fine v = true) : callN T (k + 1) n [v] s = .ok (.val (.bl (famB v))) s := by
  rw [callN_eq hF]
  by_cases ht : ∃ xs, v = .tup xs
  · obtain ⟨xs, rfl⟩ := ht
    rw [fine, fines_iff] at hv
    by_cases c1 : 1 ≤ xs.length
    · by_cases c2 : xs.length ≤ 4
      · have c1' : (1 : Int) ≤ xs.length := by omega
        have c2' : (xs.length : Int) ≤ 4 := by omega
        have l := famL ru hv c2
        have am : ((numd xs).map famAt).all id = (numd xs).all famAt := by rw [List.all_map]; rfl
        have bm : ((numd xs).map fun v => Val.bl (famAt v)) = ((numd xs).map famAt).map Val.bl := by rw [List.map_map]; rfl
        simp -implicitDefEqProofs [runD, IsFamD, isiv, c1, c2, c1', c2', l, bools_map, all_map, famB]
      · have c1' : (1 : Int) ≤ xs.length := by omega
        have c2' : ¬ (xs.length : Int) ≤ 4 := by omega
        simp -implicitDefEqProofs [runD, IsFamD, isiv, c1, c2, c1', c2', famB]
    · have c1' : ¬ (1 : Int) ≤ xs.length := by omega
      simp -implicitDefEqProofs [runD, IsFamD, isiv, c1, c1', famB]
  · have hn := notT_of hv fun xs e => ht ⟨xs, e⟩
    have e : famB v = false := by cases v <;> first | rfl | exact absurd ⟨_, rfl⟩ ht
    simp -implicitDefEqProofs [-deref, runD, IsFamD, hn.1, hn.2, e]
theorem lfamL1 {T : List Def} {k nu : Nat} {s : Sto} (ru : ∀ v, fine v = true → callN T k nu [v] s = .ok (.val (.bl (isRule v))) s) {xs : List Val} (hv : ∀ x ∈ xs, fine x = true) (hl : xs.length ≤ 4) :
    evE (callN T k) (LIsFamD_l1 nu) [some (.val (.tup xs)), none] s = .ok (.fr (xs.map fun v => .bl (isRule v))) [some (.val (.tup xs)), none] s := by
  unfold LIsFamD_l1
  rw [ev_lc]
  have e : evI (callN T k) (.seq (.var 0)) [some (.val (.tup xs)), none] s = .ok xs [some (.val (.tup xs)), none] s := by simp -implicitDefEqProofs
  rw [e, bind_ok, lc_map (g := fun v => .bl (isRule v)) [] (by have := le_line (n := xs.length) (by omega); simpa using this) ?_]
  · simp
  · intro x hx
    simp -implicitDefEqProofs [turnF, ru x (hv x hx)]
theorem lfamL0 {F : FT} {nu : Nat} {s : Sto} {xs : List Val} (hr : xs.all isRule = true) (hl : xs.length ≤ 4) :
    evE F (LIsFamD_l0 nu) [some (.val (.tup xs)), none] s = .ok (.fr ((xs.map fst1).map .int)) [some (.val (.tup xs)), none] s := by
  unfold LIsFamD_l0
  rw [ev_lc]
  have e : evI F (.seq (.var 0)) [some (.val (.tup xs)), none] s = .ok xs [some (.val (.tup xs)), none] s := by simp -implicitDefEqProofs
  rw [e, bind_ok, lc_map (g := fun v => .int (fst1 v)) [] (by have := le_line (n := xs.length) (by omega); simpa using this) ?_]
  · simp
  · intro x hx
    obtain ⟨r, er⟩ := isRule_fst (List.all_eq_true.mp hr x hx)
    have a0 : atI [.int (fst1 x), r] 0 = some (.int (fst1 x)) := rfl
    generalize fst1 x = p at *
    subst er
    simp -implicitDefEqProofs [turnF, a0]
/-- the laws' own -/
theorem lfam {T : List Def} {k nu n : Nat} {s : Sto} (ru : ∀ v, fine v = true → callN T k nu [v] s = .ok (.val (.bl (isRule v))) s) (hF : T[n]? = some (LIsFamD nu)) {v : Val} (hv : fine v = true) : callN T (k + 1) n [v] s = .ok (.val (.bl (famB v))) s := by
  rw [callN_eq hF]
  by_cases ht : ∃ xs, v = .tup xs
  · obtain ⟨xs, rfl⟩ := ht
    rw [fine, fines_iff] at hv
    by_cases c1 : 1 ≤ xs.length
    · by_cases c2 : xs.length ≤ 4
      · have c1' : (1 : Int) ≤ xs.length := by omega
        have c2' : (xs.length : Int) ≤ 4 := by omega
        have l1 := lfamL1 ru hv c2
        have fa := fam_all c2
        cases ha : xs.all isRule with
        | false =>
          rw [ha, Bool.false_and] at fa
          simp -implicitDefEqProofs [-List.all_eq_true, -List.all_eq_false, runD, LIsFamD, isiv, c1, c2, c1', c2', l1, bools_map, all_map, famB, ha, fa]
        | true =>
          rw [ha, Bool.true_and] at fa
          have l0 := lfamL0 (F := callN T k) (nu := nu) (s := s) ha c2
          have q := eqq_ints (xs.map fst1) (rngI 1 ((xs.length : Int) + 1))
          have rs : rngOk 1 ((xs.length : Int) + 1) = true := by
            have : xs.length = 0 ∨ xs.length = 1 ∨ xs.length = 2 ∨ xs.length = 3 ∨ xs.length = 4 := by omega
            rcases this with e | e | e | e | e <;> rw [e] <;> decide
          have g1 : (xs.length : Int) ≤ 16777216 := by omega
          simp -implicitDefEqProofs [-List.all_eq_true, -List.all_eq_false, -List.map_map, g1, runD, LIsFamD, isiv, c1, c2, c1', c2', l1, l0, bools_map, all_map, famB, ha, fa, q, rs]
      · have c1' : (1 : Int) ≤ xs.length := by omega
        have c2' : ¬ (xs.length : Int) ≤ 4 := by omega
        simp -implicitDefEqProofs [runD, LIsFamD, isiv, c1, c2, c1', c2', famB]
    · have c1' : ¬ (1 : Int) ≤ xs.length := by omega
      simp -implicitDefEqProofs [runD, LIsFamD, isiv, c1, c1', famB]
  · have hn := notT_of hv fun xs e => ht ⟨xs, e⟩
    have e : famB v = false := by cases v <;> first | rfl | exact absurd ⟨_, rfl⟩ ht
    simp -implicitDefEqProofs [-deref, runD, LIsFamD, hn.1, hn.2, e]
end Gz
/-! ### the table (printed by gz.py) -/
namespace K13
open PySem PySem.Spec PyProof.Rows L2 Gz
def topS (i : Nat) : Stmt := PySem.Challenge.pw_goesout_k13_families_made_and_known.main.body.getD i (.Pass ⟨0, 0, 0, 0⟩)
def P : Pr := ⟨[("is_whole" : Str), ("is_order" : Str), ("is_move" : Str), ("are_moves" : Str), ("is_label_row" : Str), ("is_rule" : Str), ("need_places" : Str), ("same_order" : Str), ("front_order" : Str), ("front_orders" : Str), ("lone_rule" : Str), ("recent" : Str), ("queue" : Str), ("newest" : Str), ("marks_of" : Str), ("label_of" : Str), ("chance_row" : Str), ("chance" : Str), ("family" : Str), ("is_family" : Str), ("_law_cell_at" : Str), ("_law_pen" : Str), ("_law_draw" : Str), ("_law_pick" : Str), ("_law_mixed" : Str), ("_law_same" : Str), ("_law_whole" : Str), ("_law_moves" : Str), ("_law_drawn" : Str), ("_law_odd" : Str), ("_law_bent" : Str), ("_law_is_order" : Str), ("_law_are_moves" : Str), ("_law_is_rule" : Str), ("_law_is_family" : Str), ("_law_right" : Str), ("_law_made_right" : Str), ("law" : Str)], [], [(("MOST_LABELS" : Str), .int 16), (("MOST_PLACES" : Str), .int 4), (("POWERS" : Str), .tup [.int 1, .int 2, .int 4, .int 8, .int 16])], [("all" : Str), ("bool" : Str), ("enumerate" : Str), ("int" : Str), ("isinstance" : Str), ("len" : Str), ("list" : Str), ("max" : Str), ("min" : Str), ("range" : Str), ("repr" : Str), ("sorted" : Str), ("sum" : Str), ("tuple" : Str)]⟩
/-- 0: is_whole(thing, low, high), slots 0=thing 1=low 2=high -/
def d0 : Def := ⟨3, 3,
    (.cons (.ret (.and (.isiV 0 "int") (.and (.not (.isiV 0 "bool")) (.chn .le .le (.var 1) (.var 0) (.var 2)))))
    .nil)⟩
def d1_l0 : CE := .lc (.seq (.var 0)) [2] .no (.call 0 (.cons (.var 2) (.cons (.cst (.int 0)) (.cons (.bin .sub (.var 1) (.cst (.int 1))) .nil))))
/-- 1: is_order(thing, places), slots 0=thing 1=places 2=one -/
def d1 : Def := ⟨2, 3,
    (.cons (.ifs (.or (.not (.isiV 0 "tuple")) (.cmp .ne (.bltV .len 0) (.var 1)))
    (.cons (.ret (.cst (.bl false)))
    .nil)
    .nil)
    (.cons (.ret (.and (.blt .all (.cons d1_l0 .nil)) (.cmp .eq (.bltV .sorted 0) (.rng false .no (.so (.var 1))))))
    .nil))⟩
/-- 2: is_move(thing, places, labels), slots 0=thing 1=places 2=labels -/
def d2 : Def := ⟨3, 3,
    (.cons (.ifs (.or (.not (.isiV 0 "tuple")) (.cmp .ne (.bltV .len 0) (.cst (.int 2))))
    (.cons (.ret (.cst (.bl false)))
    .nil)
    .nil)
    (.cons (.ret (.and (.call 1 (.cons (.idxV 0 (.cst (.int 0))) (.cons (.var 1) .nil))) (.call 0 (.cons (.idxV 0 (.cst (.int 1))) (.cons (.cst (.int 0)) (.cons (.bin .sub (.var 2) (.cst (.int 1))) .nil))))))
    .nil))⟩
def d3_l0 : CE := .lc (.seq (.var 0)) [3] .no (.call 2 (.cons (.var 3) (.cons (.var 1) (.cons (.var 2) .nil))))
/-- 3: are_moves(thing, places, labels), slots 0=thing 1=places 2=labels 3=one -/
def d3 : Def := ⟨3, 4,
    (.cons (.ifs (.or (.not (.isiV 0 "tuple")) (.cmp .ne (.bltV .len 0) (.var 1)))
    (.cons (.ret (.cst (.bl false)))
    .nil)
    .nil)
    (.cons (.ret (.blt .all (.cons d3_l0 .nil)))
    .nil))⟩
/-- 4: is_label_row(thing, places, labels), slots 0=thing 1=places 2=labels 3=hits 4=out 5=comes -/
def d4 : Def := ⟨3, 6,
    (.cons (.ifs (.or (.not (.isiV 0 "tuple")) (.cmp .ne (.bltV .len 0) (.cst (.int 3))))
    (.cons (.ret (.cst (.bl false)))
    .nil)
    .nil)
    (.cons (.asgT [3, 4, 5] (.var 0))
    (.cons (.ret (.and (.call 3 (.cons (.var 3) (.cons (.var 1) (.cons (.var 2) .nil)))) (.and (.call 0 (.cons (.var 4) (.cons (.cst (.int 0)) (.cons (.bin .sub (.var 1) (.cst (.int 1))) .nil)))) (.call 3 (.cons (.var 5) (.cons (.var 1) (.cons (.var 2) .nil)))))))
    .nil)))⟩
def d5_l0 : CE := .lc (.seq (.var 2)) [3] .no (.call 4 (.cons (.var 3) (.cons (.var 1) (.cons (.bltV .len 2) .nil))))
/-- 5: is_rule(thing), slots 0=thing 1=places 2=labels 3=one -/
def d5 : Def := ⟨1, 4,
    (.cons (.ifs (.or (.not (.isiV 0 "tuple")) (.cmp .ne (.bltV .len 0) (.cst (.int 2))))
    (.cons (.ret (.cst (.bl false)))
    .nil)
    .nil)
    (.cons (.asgT [1, 2] (.var 0))
    (.cons (.ifs (.or (.not (.call 0 (.cons (.var 1) (.cons (.cst (.int 1)) (.cons (.cst (.int 4)) .nil))))) (.not (.isiV 2 "tuple")))
    (.cons (.ret (.cst (.bl false)))
    .nil)
    .nil)
    (.cons (.ifs (.not (.chn .le .le (.cst (.int 1)) (.bltV .len 2) (.cst (.int 16))))
    (.cons (.ret (.cst (.bl false)))
    .nil)
    .nil)
    (.cons (.ret (.blt .all (.cons d5_l0 .nil)))
    .nil)))))⟩
/-- 6: need_places(places), slots 0=places -/
def d6 : Def := ⟨1, 1,
    (.cons (.ifs (.not (.call 0 (.cons (.var 0) (.cons (.cst (.int 1)) (.cons (.cst (.int 4)) .nil)))))
    (.cons .nev
    .nil)
    .nil)
    .nil)⟩
/-- 7: same_order(places), slots 0=places -/
def d7 : Def := ⟨1, 1,
    (.cons (.ret (.rng true .no (.so (.var 0))))
    .nil)⟩
def d8_l0 : CE := .lc (.rng .no (.var 1)) [2] (.so (.cmp .ne (.var 2) (.var 0))) (.var 2)
/-- 8: front_order(place, places), slots 0=place 1=places 2=one -/
def d8 : Def := ⟨2, 3,
    (.cons (.ret (.bin .add (.tup (.cons (.var 0) .nil)) (.blt .tuple (.cons d8_l0 .nil))))
    .nil)⟩
def d9_l0 : CE := .lc (.rng .no (.var 0)) [1] .no (.call 8 (.cons (.var 1) (.cons (.var 0) .nil)))
/-- 9: front_orders(places), slots 0=places 1=place -/
def d9 : Def := ⟨1, 2,
    (.cons (.ret d9_l0)
    .nil)⟩
def d10_l0 : CE := .lc (.seq (.var 2)) [4] .no (.tup (.cons (.var 4) (.cons (.cst (.int 0)) .nil)))
def d10_l1 : CE := .lc (.seq (.var 0)) [4] .no (.tup (.cons (.var 4) (.cons (.cst (.int 0)) .nil)))
/-- 10: lone_rule(hits, out, comes), slots 0=hits 1=out 2=comes 3=row 4=order -/
def d10 : Def := ⟨3, 5,
    (.cons (.asg 3 (.tup (.cons (.blt .tuple (.cons d10_l1 .nil)) (.cons (.var 1) (.cons (.blt .tuple (.cons d10_l0 .nil)) .nil)))))
    (.cons (.ret (.tup (.cons (.bltV .len 0) (.cons (.tup (.cons (.var 3) .nil)) .nil))))
    .nil))⟩
/-- 11: recent(places), slots 0=places -/
def d11 : Def := ⟨1, 1,
    (.cons (.exp (.call 6 (.cons (.var 0) .nil)))
    (.cons (.ret (.call 10 (.cons (.call 9 (.cons (.var 0) .nil)) (.cons (.bin .sub (.var 0) (.cst (.int 1))) (.cons (.call 9 (.cons (.var 0) .nil)) .nil)))))
    .nil))⟩
/-- 12: queue(places), slots 0=places -/
def d12 : Def := ⟨1, 1,
    (.cons (.exp (.call 6 (.cons (.var 0) .nil)))
    (.cons (.ret (.call 10 (.cons (.bin .mul (.lst (.cons (.call 7 (.cons (.var 0) .nil)) .nil)) (.var 0)) (.cons (.bin .sub (.var 0) (.cst (.int 1))) (.cons (.call 9 (.cons (.var 0) .nil)) .nil)))))
    .nil))⟩
/-- 13: newest(places), slots 0=places -/
def d13 : Def := ⟨1, 1,
    (.cons (.exp (.call 6 (.cons (.var 0) .nil)))
    (.cons (.ret (.call 10 (.cons (.call 9 (.cons (.var 0) .nil)) (.cons (.cst (.int 0)) (.cons (.call 9 (.cons (.var 0) .nil)) .nil)))))
    .nil))⟩
def d14_l0 : CE := .lc (.rng .no (.var 1)) [2] .no (.cmp .eq (.bin .mod (.bin .fdiv (.var 0) (.idx (.cst (.tup [.int 1, .int 2, .int 4, .int 8, .int 16])) (.var 2))) (.cst (.int 2))) (.cst (.int 1)))
/-- 14: marks_of(label, places), slots 0=label 1=places 2=place -/
def d14 : Def := ⟨2, 3,
    (.cons (.ret d14_l0)
    .nil)⟩
def d15_l0 : CE := .lc (.enum (.var 0)) [1, 2] (.so (.var 2)) (.idx (.cst (.tup [.int 1, .int 2, .int 4, .int 8, .int 16])) (.var 1))
/-- 15: label_of(marks), slots 0=marks 1=place 2=is_marked -/
def d15 : Def := ⟨1, 3,
    (.cons (.ret (.blt .sum (.cons d15_l0 .nil)))
    .nil)⟩
def d16_b0 : CSs := 
    (.cons (.asg 6 (.bin .add (.bin .add (.slc (.var 2) .no (.so (.var 5))) (.lst (.cons (.cst (.bl true)) .nil))) (.slc (.var 2) (.so (.bin .add (.var 5) (.cst (.int 1)))) .no)))
    (.cons (.exp (.app 3 (.tup (.cons (.call 7 (.cons (.var 1) .nil)) (.cons (.call 15 (.cons (.var 6) .nil)) .nil)))))
    (.cons (.asg 7 (.bin .add (.rng true (.so (.bin .add (.var 5) (.cst (.int 1)))) (.so (.var 1))) (.rng true .no (.so (.bin .add (.var 5) (.cst (.int 1)))))))
    (.cons (.asg 8 (.ite (.bltV .all 2) (.lst .nil) (.slc (.var 2) (.so (.bin .add (.var 5) (.cst (.int 1)))) .no)))
    (.cons (.exp (.app 4 (.tup (.cons (.var 7) (.cons (.call 15 (.cons (.var 8) .nil)) .nil)))))
    .nil)))))
def d16_f0 : CS := .for_ [5] (.rng .no (.var 1)) d16_b0
/-- 16: chance_row(label, places), slots 0=label 1=places 2=marks 3=hits 4=comes 5=place 6=with_it 7=order 8=left -/
def d16 : Def := ⟨2, 9,
    (.cons (.asg 2 (.call 14 (.cons (.var 0) (.cons (.var 1) .nil))))
    (.cons (.par [3, 4] (.cons (.lst .nil) (.cons (.lst .nil) .nil)))
    (.cons d16_f0
    (.cons (.ret (.tup (.cons (.bltV .tuple 3) (.cons (.ite (.bltV .all 2) (.cst (.int 0)) (.mth .index (.var 2) (.cons (.cst (.bl false)) .nil))) (.cons (.bltV .tuple 4) .nil)))))
    .nil))))⟩
def d17_l0 : CE := .lc (.rng .no (.idx (.cst (.tup [.int 1, .int 2, .int 4, .int 8, .int 16])) (.var 0))) [1] .no (.call 16 (.cons (.var 1) (.cons (.var 0) .nil)))
/-- 17: chance(places), slots 0=places 1=label -/
def d17 : Def := ⟨1, 2,
    (.cons (.exp (.call 6 (.cons (.var 0) .nil)))
    (.cons (.ret (.tup (.cons (.var 0) (.cons (.blt .tuple (.cons d17_l0 .nil)) .nil))))
    .nil))⟩
def d18_l0 : CE := .lc (.rng (.so (.cst (.int 1))) (.bin .add (.var 1) (.cst (.int 1)))) [2] .no (.callv (.var 0) (.cons (.var 2) .nil))
/-- 18: family(rule_of, most), slots 0=rule_of 1=most 2=places -/
def d18 : Def := ⟨2, 3,
    (.cons (.ifs (.inF true (.var 0) [12, 11, 13, 17])
    (.cons .nev
    .nil)
    .nil)
    (.cons (.exp (.call 6 (.cons (.var 1) .nil)))
    (.cons (.ret (.blt .tuple (.cons d18_l0 .nil)))
    .nil)))⟩
def d19_l0 : CE := .lc (.enum (.var 0)) [1, 2] .no (.and (.call 5 (.cons (.var 2) .nil)) (.cmp .eq (.idxV 2 (.cst (.int 0))) (.bin .add (.var 1) (.cst (.int 1)))))
/-- 19: is_family(thing), slots 0=thing 1=at 2=rule -/
def d19 : Def := ⟨1, 3,
    (.cons (.ifs (.or (.not (.isiV 0 "tuple")) (.not (.chn .le .le (.cst (.int 1)) (.bltV .len 0) (.cst (.int 4)))))
    (.cons (.ret (.cst (.bl false)))
    .nil)
    .nil)
    (.cons (.ret (.blt .all (.cons d19_l0 .nil)))
    .nil))⟩
/-- 20: _law_cell_at(_law_script, _law_k), slots 0=_law_script 1=_law_k -/
def d20 : Def := ⟨2, 2,
    (.cons (.ifs (.cmp .lt (.var 1) (.bltV .len 0))
    (.cons (.ret (.idxV 0 (.var 1)))
    .nil)
    .nil)
    (.cons (.ret (.cst (.int 0)))
    .nil))⟩
/-- 21: _law_pen(_law_cell), slots 0=_law_cell -/
def d21 : Def := ⟨1, 1,
    (.cons (.ret (.lstL (.cons (.blt .max2 (.cons (.cst (.int 0)) (.cons (.bin .sub (.var 0) (.bin .pow (.cst (.int 10)) (.cst (.int 18)))) .nil))) (.cons (.bin .mod (.var 0) (.cst (.int 1000000007))) (.cons (.cst (.int 0)) .nil)))))
    .nil)⟩
/-- 22: _law_draw(_law_pen_here, _law_many), slots 0=_law_pen_here 1=_law_many 2=_law_digit 3=_law_stir -/
def d22 : Def := ⟨2, 4,
    (.cons (.ifs (.cmp .gt (.idxV 0 (.cst (.int 0))) (.cst (.int 0)))
    (.cons (.asg 2 (.bin .mod (.idxV 0 (.cst (.int 0))) (.var 1)))
    (.cons (.set 0 (.cst (.int 0)) (.bin .fdiv (.idxV 0 (.cst (.int 0))) (.var 1)))
    (.cons (.retV 2)
    .nil)))
    .nil)
    (.cons (.set 0 (.cst (.int 2)) (.bin .add (.idxV 0 (.cst (.int 2))) (.cst (.int 1))))
    (.cons (.asg 3 (.bin .mod (.bin .mul (.bin .add (.idxV 0 (.cst (.int 1))) (.bin .mul (.cst (.int 17)) (.idxV 0 (.cst (.int 2))))) (.bin .add (.cst (.int 69621)) (.bin .mul (.cst (.int 2)) (.idxV 0 (.cst (.int 2)))))) (.cst (.int 2147483647))))
    (.cons (.asg 3 (.bin .mod (.bin .add (.bin .add (.bin .mul (.var 3) (.var 3)) (.bin .mul (.cst (.int 40503)) (.idxV 0 (.cst (.int 2))))) (.cst (.int 5))) (.cst (.int 2147483629))))
    (.cons (.ret (.bin .mod (.bin .fdiv (.bin .mod (.bin .mul (.var 3) (.cst (.int 48271))) (.cst (.int 2147483647))) (.cst (.int 32))) (.var 1)))
    .nil)))))⟩
/-- 23: _law_pick(_law_pen_here, _law_things), slots 0=_law_pen_here 1=_law_things -/
def d23 : Def := ⟨2, 2,
    (.cons (.ret (.idxV 1 (.call 22 (.cons (.var 0) (.cons (.bltV .len 1) .nil)))))
    .nil)⟩
def d24_b0 : CSs := 
    (.cons (.exp (.app 3 (.popAt 2 (.call 22 (.cons (.var 0) (.cons (.bltV .len 2) .nil))))))
    .nil)
def d24_f0 : CS := .for_ [4] (.rng .no (.bltV .len 1)) d24_b0
/-- 24: _law_mixed(_law_pen_here, _law_things), slots 0=_law_pen_here 1=_law_things 2=_law_rest 3=_law_found 4=_law_turn -/
def d24 : Def := ⟨2, 5,
    (.cons (.par [2, 3] (.cons (.bltV .list 1) (.cons (.lst .nil) .nil)))
    (.cons d24_f0
    (.cons (.retV 3)
    .nil)))⟩
/-- 25: _law_same(_law_found, _law_due), slots 0=_law_found 1=_law_due -/
def d25 : Def := ⟨2, 2,
    (.cons (.ret (.cmp .eq (.bltV .repr 0) (.bltV .repr 1)))
    .nil)⟩
/-- 26: _law_whole(_law_thing, _law_low, _law_high), slots 0=_law_thing 1=_law_low 2=_law_high -/
def d26 : Def := ⟨3, 3,
    (.cons (.ret (.and (.isiV 0 "int") (.and (.not (.isiV 0 "bool")) (.chn .le .le (.var 1) (.var 0) (.var 2)))))
    .nil)⟩
def d27_b0 : CSs := 
    (.cons (.asg 5 (.ite (.cmp .eq (.call 22 (.cons (.var 0) (.cons (.cst (.int 3)) .nil))) (.cst (.int 0))) (.rng true .no (.so (.var 1))) (.blt .tuple (.cons (.call 24 (.cons (.var 0) (.cons (.rng false .no (.so (.var 1))) .nil))) .nil))))
    (.cons (.exp (.app 3 (.tup (.cons (.var 5) (.cons (.call 22 (.cons (.var 0) (.cons (.var 2) .nil))) .nil)))))
    .nil))
def d27_f0 : CS := .for_ [4] (.rng .no (.var 1)) d27_b0
/-- 27: _law_moves(_law_pen_here, _law_places, _law_labels), slots 0=_law_pen_here 1=_law_places 2=_law_labels 3=_law_found 4=_law_place 5=_law_order -/
def d27 : Def := ⟨3, 6,
    (.cons (.asg 3 (.lst .nil))
    (.cons d27_f0
    (.cons (.ret (.bltV .tuple 3))
    .nil)))⟩
def d28_b0 : CSs := 
    (.cons (.par [5, 6] (.cons (.call 27 (.cons (.var 0) (.cons (.var 1) (.cons (.var 2) .nil)))) (.cons (.call 22 (.cons (.var 0) (.cons (.var 1) .nil))) .nil)))
    (.cons (.exp (.app 3 (.tup (.cons (.var 5) (.cons (.var 6) (.cons (.call 27 (.cons (.var 0) (.cons (.var 1) (.cons (.var 2) .nil)))) .nil))))))
    .nil))
def d28_f0 : CS := .for_ [4] (.rng .no (.var 2)) d28_b0
/-- 28: _law_drawn(_law_pen_here, _law_places, _law_labels), slots 0=_law_pen_here 1=_law_places 2=_law_labels 3=_law_rows 4=_law_turn 5=_law_at_hits 6=_law_out -/
def d28 : Def := ⟨3, 7,
    (.cons (.asg 3 (.lst .nil))
    (.cons d28_f0
    (.cons (.ret (.tup (.cons (.var 1) (.cons (.bltV .tuple 3) .nil))))
    .nil)))⟩
/-- 29: _law_odd(_law_pen_here), slots 0=_law_pen_here 1=_law_some -/
def d29 : Def := ⟨1, 2,
    (.cons (.asg 1 (.lst (.cons (.cst (.non)) (.cons (.cst (.bl true)) (.cons (.cst (.bl false)) (.cons (.neg (.cst (.int 1))) (.cons (.cst (.int 0)) (.cons (.cst (.int 1)) (.cons (.cst (.int 4)) (.cons (.cst (.int 16)) (.cons (.cst (.int 100)) (.cons (.bin .pow (.cst (.int 10)) (.cst (.int 12))) (.cons (.cst (.str "")) (.cons (.cst (.str "rule")) (.cons (.tup .nil) (.cons (.lst .nil) (.cons (.dct []) (.cons (.tup (.cons (.cst (.int 0)) .nil)) (.cons (.lst (.cons (.cst (.int 0)) .nil)) (.cons (.tup (.cons (.tup (.cons (.cst (.int 0)) .nil)) (.cons (.cst (.int 0)) .nil))) (.cons (.dct [(.inl 0, .int 1)]) .nil)))))))))))))))))))))
    (.cons (.ret (.call 23 (.cons (.var 0) (.cons (.bin .add (.var 1) (.lst (.cons (.tup (.cons (.cst (.int 0)) (.cons (.cst (.int 1)) .nil))) (.cons (.tup (.cons (.neg (.cst (.int 1))) (.cons (.neg (.cst (.int 1))) .nil))) (.cons (.tup (.cons (.tup .nil) (.cons (.cst (.int 0)) .nil))) .nil))))) .nil))))
    .nil))⟩
/-- 30: _law_bent(_law_pen_here, _law_thing, _law_deep), slots 0=_law_pen_here 1=_law_thing 2=_law_deep 3=_law_at 4=_law_way -/
def d30 : Def := ⟨3, 5,
    (.cons (.ifs (.and (.call 26 (.cons (.var 1) (.cons (.neg (.cst (.int 1))) (.cons (.cst (.int 99)) .nil)))) (.cmp .gt (.call 22 (.cons (.var 0) (.cons (.cst (.int 3)) .nil))) (.cst (.int 0))))
    (.cons (.ret (.call 23 (.cons (.var 0) (.cons (.lst (.cons (.bin .add (.var 1) (.cst (.int 1))) (.cons (.bin .sub (.var 1) (.cst (.int 1))) (.cons (.cst (.int 0)) (.cons (.cst (.int 15)) (.cons (.cst (.int 16)) (.cons (.cmp .eq (.var 1) (.cst (.int 1))) (.cons (.cst (.int 4)) (.cons (.var 1) .nil))))))))) .nil))))
    .nil)
    .nil)
    (.cons (.ifs (.or (.not (.isiV 1 "tuple")) (.or (.cmp .eq (.var 1) (.tup .nil)) (.cmp .eq (.var 2) (.cst (.int 0)))))
    (.cons (.ret (.call 29 (.cons (.var 0) .nil)))
    .nil)
    .nil)
    (.cons (.par [3, 4] (.cons (.call 22 (.cons (.var 0) (.cons (.bltV .len 1) .nil))) (.cons (.call 22 (.cons (.var 0) (.cons (.cst (.int 9)) .nil))) .nil)))
    (.cons (.ifs (.cmp .eq (.var 4) (.cst (.int 0)))
    (.cons (.ret (.bin .add (.bin .add (.slc (.var 1) .no (.so (.var 3))) (.tup (.cons (.call 29 (.cons (.var 0) .nil)) .nil))) (.slc (.var 1) (.so (.var 3)) .no)))
    .nil)
    .nil)
    (.cons (.ifs (.cmp .eq (.var 4) (.cst (.int 1)))
    (.cons (.ret (.bin .add (.slc (.var 1) .no (.so (.var 3))) (.slc (.var 1) (.so (.bin .add (.var 3) (.cst (.int 1)))) .no)))
    .nil)
    .nil)
    (.cons (.ifs (.cmp .eq (.var 4) (.cst (.int 2)))
    (.cons (.ret (.call 23 (.cons (.var 0) (.cons (.lst (.cons (.bltV .list 1) (.cons (.rev (.var 1)) (.cons (.bin .add (.bin .add (.slc (.var 1) .no (.so (.var 3))) (.slc (.var 1) (.so (.var 3)) (.so (.bin .add (.var 3) (.cst (.int 1)))))) (.slc (.var 1) (.so (.var 3)) .no)) .nil)))) .nil))))
    .nil)
    .nil)
    (.cons (.ret (.bin .add (.bin .add (.slc (.var 1) .no (.so (.var 3))) (.tup (.cons (.call 30 (.cons (.var 0) (.cons (.idxV 1 (.var 3)) (.cons (.bin .sub (.var 2) (.cst (.int 1))) .nil)))) .nil))) (.slc (.var 1) (.so (.bin .add (.var 3) (.cst (.int 1)))) .no)))
    .nil)))))))⟩
def d31_l0 : CE := .lc (.rng .no (.var 1)) [3] (.so (.cmp .notin (.var 3) (.var 0))) (.var 3)
def d31_l1 : CE := .lc (.seq (.var 0)) [2] (.so (.not (.call 26 (.cons (.var 2) (.cons (.cst (.int 0)) (.cons (.bin .sub (.var 1) (.cst (.int 1))) .nil)))))) (.var 2)
/-- 31: _law_is_order(_law_thing, _law_places), slots 0=_law_thing 1=_law_places 2=_law_one 3=_law_place -/
def d31 : Def := ⟨2, 4,
    (.cons (.ifs (.or (.not (.isiV 0 "tuple")) (.cmp .ne (.bltV .len 0) (.var 1)))
    (.cons (.ret (.cst (.bl false)))
    .nil)
    .nil)
    (.cons (.ifs (.cmp .ne d31_l1 (.lst .nil))
    (.cons (.ret (.cst (.bl false)))
    .nil)
    .nil)
    (.cons (.ret (.cmp .eq d31_l0 (.lst .nil)))
    .nil)))⟩
def d32_b0 : CSs := 
    (.cons (.ifs (.or (.not (.isiV 3 "tuple")) (.or (.cmp .ne (.bltV .len 3) (.cst (.int 2))) (.not (.call 31 (.cons (.idxV 3 (.cst (.int 0))) (.cons (.var 1) .nil))))))
    (.cons (.ret (.cst (.bl false)))
    .nil)
    .nil)
    (.cons (.ifs (.not (.call 26 (.cons (.idxV 3 (.cst (.int 1))) (.cons (.cst (.int 0)) (.cons (.bin .sub (.var 2) (.cst (.int 1))) .nil)))))
    (.cons (.ret (.cst (.bl false)))
    .nil)
    .nil)
    .nil))
def d32_f0 : CS := .for_ [3] (.seq (.var 0)) d32_b0
/-- 32: _law_are_moves(_law_thing, _law_places, _law_labels), slots 0=_law_thing 1=_law_places 2=_law_labels 3=_law_one -/
def d32 : Def := ⟨3, 4,
    (.cons (.ifs (.or (.not (.isiV 0 "tuple")) (.cmp .ne (.bltV .len 0) (.var 1)))
    (.cons (.ret (.cst (.bl false)))
    .nil)
    .nil)
    (.cons d32_f0
    (.cons (.ret (.cst (.bl true)))
    .nil)))⟩
def d33_b0 : CSs := 
    (.cons (.ifs (.or (.not (.isiV 3 "tuple")) (.or (.cmp .ne (.bltV .len 3) (.cst (.int 3))) (.not (.call 26 (.cons (.idxV 3 (.cst (.int 1))) (.cons (.cst (.int 0)) (.cons (.bin .sub (.var 1) (.cst (.int 1))) .nil)))))))
    (.cons (.ret (.cst (.bl false)))
    .nil)
    .nil)
    (.cons (.ifs (.or (.not (.call 32 (.cons (.idxV 3 (.cst (.int 0))) (.cons (.var 1) (.cons (.bltV .len 2) .nil))))) (.not (.call 32 (.cons (.idxV 3 (.cst (.int 2))) (.cons (.var 1) (.cons (.bltV .len 2) .nil))))))
    (.cons (.ret (.cst (.bl false)))
    .nil)
    .nil)
    .nil))
def d33_f0 : CS := .for_ [3] (.seq (.var 2)) d33_b0
/-- 33: _law_is_rule(_law_thing), slots 0=_law_thing 1=_law_places 2=_law_rows 3=_law_row -/
def d33 : Def := ⟨1, 4,
    (.cons (.ifs (.or (.not (.isiV 0 "tuple")) (.or (.cmp .ne (.bltV .len 0) (.cst (.int 2))) (.not (.call 26 (.cons (.idxV 0 (.cst (.int 0))) (.cons (.cst (.int 1)) (.cons (.cst (.int 4)) .nil)))))))
    (.cons (.ret (.cst (.bl false)))
    .nil)
    .nil)
    (.cons (.asgT [1, 2] (.var 0))
    (.cons (.ifs (.or (.not (.isiV 2 "tuple")) (.not (.chn .le .le (.cst (.int 1)) (.bltV .len 2) (.cst (.int 16)))))
    (.cons (.ret (.cst (.bl false)))
    .nil)
    .nil)
    (.cons d33_f0
    (.cons (.ret (.cst (.bl true)))
    .nil)))))⟩
def d34_l0 : CE := .lc (.seq (.var 0)) [1] .no (.idxV 1 (.cst (.int 0)))
def d34_l1 : CE := .lc (.seq (.var 0)) [1] .no (.call 33 (.cons (.var 1) .nil))
/-- 34: _law_is_family(_law_thing), slots 0=_law_thing 1=_law_rule -/
def d34 : Def := ⟨1, 2,
    (.cons (.ifs (.or (.not (.isiV 0 "tuple")) (.or (.not (.chn .le .le (.cst (.int 1)) (.bltV .len 0) (.cst (.int 4)))) (.not (.blt .all (.cons d34_l1 .nil)))))
    (.cons (.ret (.cst (.bl false)))
    .nil)
    .nil)
    (.cons (.ret (.cmp .eq d34_l0 (.rng false (.so (.cst (.int 1))) (.so (.bin .add (.bltV .len 0) (.cst (.int 1)))))))
    .nil))⟩
/-- 35: _law_right(_law_thing), slots 0=_law_thing 1=_law_noted 2=_law_due -/
def d35 : Def := ⟨1, 3,
    (.cons (.par [1, 2] (.cons (.bltV .repr 0) (.cons (.call 34 (.cons (.var 0) .nil)) .nil)))
    (.cons (.ret (.and (.call 25 (.cons (.lst (.cons (.call 19 (.cons (.var 0) .nil)) (.cons (.call 19 (.cons (.var 0) .nil)) .nil))) (.cons (.lst (.cons (.var 2) (.cons (.var 2) .nil))) .nil))) (.cmp .eq (.bltV .repr 0) (.var 1))))
    .nil))⟩
def d36_l0 : CE := .lc (.rng (.so (.cst (.int 1))) (.bin .add (.var 0) (.cst (.int 1)))) [4] .no (.callv (.var 2) (.cons (.var 4) .nil))
def d36_b1 : CSs := 
    (.cons (.asg 3 (.blt .tuple (.cons d36_l0 .nil)))
    (.cons (.ifs (.not (.call 25 (.cons (.lst (.cons (.call 18 (.cons (.var 2) (.cons (.var 0) .nil))) (.cons (.call 18 (.cons (.var 2) (.cons (.var 0) .nil))) .nil))) (.cons (.lst (.cons (.var 3) (.cons (.var 3) .nil))) .nil))))
    (.cons (.ret (.cst (.bl false)))
    .nil)
    .nil)
    (.cons (.ifs (.not (.call 35 (.cons (.var 3) .nil)))
    (.cons (.ret (.cst (.bl false)))
    .nil)
    .nil)
    .nil)))
def d36_f1 : CS := .for_ [2] (.seq (.var 1)) d36_b1
def d36_b3 : CSs := 
    (.cons (.asg 1 (.lst (.cons (.cst (.fn 12)) (.cons (.cst (.fn 11)) (.cons (.cst (.fn 13)) (.cons (.cst (.fn 17)) .nil))))))
    (.cons d36_f1
    .nil))
def d36_f3 : CS := .for_ [0] (.seq (.tup (.cons (.cst (.int 1)) (.cons (.cst (.int 2)) (.cons (.cst (.int 3)) (.cons (.cst (.int 4)) .nil)))))) d36_b3
/-- 36: _law_made_right(), slots 0=_law_most 1=_law_some 2=_law_rule_with_name 3=_law_due 4=_law_places -/
def d36 : Def := ⟨0, 5,
    (.cons d36_f3
    (.cons (.ret (.cst (.bl true)))
    .nil))⟩
def d37_l0 : CE := .lc (.seq (.var 8)) [11] .no (.call 35 (.cons (.var 11) .nil))
def d37_b1 : CSs := 
    (.cons (.asg 8 (.bin .add (.var 8) (.lst (.cons (.call 30 (.cons (.var 2) (.cons (.var 5) (.cons (.cst (.int 8)) .nil)))) (.cons (.call 29 (.cons (.var 2) .nil)) .nil)))))
    .nil)
def d37_f1 : CS := .for_ [9] (.rng .no (.cst (.int 6))) d37_b1
def d37_l3 : CE := .lc (.rng .no (.var 4)) [10] .no (.call 28 (.cons (.var 2) (.cons (.bin .add (.var 10) (.cst (.int 1))) (.cons (.bin .add (.cst (.int 1)) (.call 22 (.cons (.var 2) (.cons (.cst (.int 3)) .nil)))) .nil))))
def d37_b4 : CSs := 
    (.cons (.asg 4 (.bin .add (.cst (.int 1)) (.call 22 (.cons (.var 2) (.cons (.cst (.int 4)) .nil)))))
    (.cons (.asg 5 (.blt .tuple (.cons d37_l3 .nil)))
    (.cons (.par [6, 7] (.cons (.call 22 (.cons (.var 2) (.cons (.var 4) .nil))) (.cons (.call 28 (.cons (.var 2) (.cons (.bin .add (.cst (.int 1)) (.call 22 (.cons (.var 2) (.cons (.cst (.int 4)) .nil)))) (.cons (.cst (.int 2)) .nil)))) .nil)))
    (.cons (.asg 8 (.lst (.cons (.var 5) (.cons (.bltV .list 5) (.cons (.rev (.var 5)) (.cons (.slc (.var 5) (.so (.cst (.int 1))) .no) (.cons (.bin .add (.var 5) (.var 5)) (.cons (.bin .add (.slc (.var 5) .no (.so (.var 6))) (.slc (.var 5) (.so (.bin .add (.var 6) (.cst (.int 1)))) .no)) (.cons (.tup .nil) (.cons (.cst (.non)) .nil))))))))))
    (.cons (.asg 8 (.bin .add (.var 8) (.lst (.cons (.bin .add (.bin .add (.slc (.var 5) .no (.so (.var 6))) (.tup (.cons (.var 7) .nil))) (.slc (.var 5) (.so (.bin .add (.var 6) (.cst (.int 1)))) .no)) (.cons (.bin .add (.var 5) (.tup (.cons (.var 7) .nil))) (.cons (.tup (.cons (.var 5) .nil)) (.cons (.idxV 5 (.cst (.int 0))) (.cons (.lst (.cons (.idxV 5 (.cst (.int 0))) .nil)) .nil))))))))
    (.cons d37_f1
    (.cons (.ifs (.not (.blt .all (.cons d37_l0 .nil)))
    (.cons (.ret (.cst (.bl false)))
    .nil)
    .nil)
    .nil)))))))
def d37_f4 : CS := .for_ [3] (.rng .no (.cst (.int 3))) d37_b4
def d37_b6 : CSs := 
    (.cons (.asg 2 (.call 21 (.cons (.call 20 (.cons (.var 0) (.cons (.var 1) .nil))) .nil)))
    (.cons d37_f4
    .nil))
def d37_f6 : CS := .for_ [1] (.rng .no (.blt .max2 (.cons (.cst (.int 1)) (.cons (.blt .min2 (.cons (.bltV .len 0) (.cons (.cst (.int 4)) .nil))) .nil)))) d37_b6
/-- 37: law(_law_script), slots 0=_law_script 1=_law_k 2=_law_pen_here 3=_law_lap 4=_law_most 5=_law_rules 6=_law_at 7=_law_other 8=_law_things 9=_law_turn 10=_law_places 11=_law_thing -/
def d37 : Def := ⟨1, 12,
    (.cons (.ifs (.not (.call 36 .nil))
    (.cons (.ret (.cst (.bl false)))
    .nil)
    .nil)
    (.cons d37_f6
    (.cons (.ret (.cst (.bl true)))
    .nil)))⟩
def T : List Def := [d0, d1, d2, d3, d4, d5, d6, d7, d8, d9, d10, d11, d12, d13, d14, d15, d16, d17, d18, d19, d20, d21, d22, d23, d24, d25, d26, d27, d28, d29, d30, d31, d32, d33, d34, d35, d36, d37]
theorem ck0 : (scb [("thing" : Str), ("low" : Str), ("high" : Str)] [("thing" : Str), ("low" : Str), ("high" : Str)] (defScope (topS 7)) && decide (d0.ps = ([("thing" : Str), ("low" : Str), ("high" : Str)] : List Str).length) && decide (d0.n = ([("thing" : Str), ("low" : Str), ("high" : Str)] : List Str).length) && ckD P ⟨[("thing" : Str), ("low" : Str), ("high" : Str)], defScope (topS 7), true, false⟩ (ckE P 60 ⟨[("thing" : Str), ("low" : Str), ("high" : Str)], defScope (topS 7), true, false⟩) d0.body (defBody (topS 7))) = true := by decide +kernel
theorem ck1 : (scb [("thing" : Str), ("places" : Str), ("one" : Str)] [("thing" : Str), ("places" : Str)] (defScope (topS 8)) && decide (d1.ps = ([("thing" : Str), ("places" : Str)] : List Str).length) && decide (d1.n = ([("thing" : Str), ("places" : Str), ("one" : Str)] : List Str).length) && ckD P ⟨[("thing" : Str), ("places" : Str), ("one" : Str)], defScope (topS 8), true, false⟩ (ckE P 60 ⟨[("thing" : Str), ("places" : Str), ("one" : Str)], defScope (topS 8), true, false⟩) d1.body (defBody (topS 8))) = true := by decide +kernel
theorem ck2 : (scb [("thing" : Str), ("places" : Str), ("labels" : Str)] [("thing" : Str), ("places" : Str), ("labels" : Str)] (defScope (topS 9)) && decide (d2.ps = ([("thing" : Str), ("places" : Str), ("labels" : Str)] : List Str).length) && decide (d2.n = ([("thing" : Str), ("places" : Str), ("labels" : Str)] : List Str).length) && ckD P ⟨[("thing" : Str), ("places" : Str), ("labels" : Str)], defScope (topS 9), true, false⟩ (ckE P 60 ⟨[("thing" : Str), ("places" : Str), ("labels" : Str)], defScope (topS 9), true, false⟩) d2.body (defBody (topS 9))) = true := by decide +kernel
theorem ck3 : (scb [("thing" : Str), ("places" : Str), ("labels" : Str), ("one" : Str)] [("thing" : Str), ("places" : Str), ("labels" : Str)] (defScope (topS 10)) && decide (d3.ps = ([("thing" : Str), ("places" : Str), ("labels" : Str)] : List Str).length) && decide (d3.n = ([("thing" : Str), ("places" : Str), ("labels" : Str), ("one" : Str)] : List Str).length) && ckD P ⟨[("thing" : Str), ("places" : Str), ("labels" : Str), ("one" : Str)], defScope (topS 10), true, false⟩ (ckE P 60 ⟨[("thing" : Str), ("places" : Str), ("labels" : Str), ("one" : Str)], defScope (topS 10), true, false⟩) d3.body (defBody (topS 10))) = true := by decide +kernel
theorem ck4 : (scb [("thing" : Str), ("places" : Str), ("labels" : Str), ("hits" : Str), ("out" : Str), ("comes" : Str)] [("thing" : Str), ("places" : Str), ("labels" : Str)] (defScope (topS 11)) && decide (d4.ps = ([("thing" : Str), ("places" : Str), ("labels" : Str)] : List Str).length) && decide (d4.n = ([("thing" : Str), ("places" : Str), ("labels" : Str), ("hits" : Str), ("out" : Str), ("comes" : Str)] : List Str).length) && ckD P ⟨[("thing" : Str), ("places" : Str), ("labels" : Str), ("hits" : Str), ("out" : Str), ("comes" : Str)], defScope (topS 11), true, false⟩ (ckE P 60 ⟨[("thing" : Str), ("places" : Str), ("labels" : Str), ("hits" : Str), ("out" : Str), ("comes" : Str)], defScope (topS 11), true, false⟩) d4.body (defBody (topS 11))) = true := by decide +kernel
theorem ck5 : (scb [("thing" : Str), ("places" : Str), ("labels" : Str), ("one" : Str)] [("thing" : Str)] (defScope (topS 12)) && decide (d5.ps = ([("thing" : Str)] : List Str).length) && decide (d5.n = ([("thing" : Str), ("places" : Str), ("labels" : Str), ("one" : Str)] : List Str).length) && ckD P ⟨[("thing" : Str), ("places" : Str), ("labels" : Str), ("one" : Str)], defScope (topS 12), true, false⟩ (ckE P 60 ⟨[("thing" : Str), ("places" : Str), ("labels" : Str), ("one" : Str)], defScope (topS 12), true, false⟩) d5.body (defBody (topS 12))) = true := by decide +kernel
theorem ck6 : (scb [("places" : Str)] [("places" : Str)] (defScope (topS 15)) && decide (d6.ps = ([("places" : Str)] : List Str).length) && decide (d6.n = ([("places" : Str)] : List Str).length) && ckD P ⟨[("places" : Str)], defScope (topS 15), true, false⟩ (ckE P 60 ⟨[("places" : Str)], defScope (topS 15), true, false⟩) d6.body (defBody (topS 15))) = true := by decide +kernel
theorem ck7 : (scb [("places" : Str)] [("places" : Str)] (defScope (topS 16)) && decide (d7.ps = ([("places" : Str)] : List Str).length) && decide (d7.n = ([("places" : Str)] : List Str).length) && ckD P ⟨[("places" : Str)], defScope (topS 16), true, false⟩ (ckE P 60 ⟨[("places" : Str)], defScope (topS 16), true, false⟩) d7.body (defBody (topS 16))) = true := by decide +kernel
theorem ck8 : (scb [("place" : Str), ("places" : Str), ("one" : Str)] [("place" : Str), ("places" : Str)] (defScope (topS 17)) && decide (d8.ps = ([("place" : Str), ("places" : Str)] : List Str).length) && decide (d8.n = ([("place" : Str), ("places" : Str), ("one" : Str)] : List Str).length) && ckD P ⟨[("place" : Str), ("places" : Str), ("one" : Str)], defScope (topS 17), true, false⟩ (ckE P 60 ⟨[("place" : Str), ("places" : Str), ("one" : Str)], defScope (topS 17), true, false⟩) d8.body (defBody (topS 17))) = true := by decide +kernel
theorem ck9 : (scb [("places" : Str), ("place" : Str)] [("places" : Str)] (defScope (topS 18)) && decide (d9.ps = ([("places" : Str)] : List Str).length) && decide (d9.n = ([("places" : Str), ("place" : Str)] : List Str).length) && ckD P ⟨[("places" : Str), ("place" : Str)], defScope (topS 18), true, false⟩ (ckE P 60 ⟨[("places" : Str), ("place" : Str)], defScope (topS 18), true, false⟩) d9.body (defBody (topS 18))) = true := by decide +kernel
theorem ck10 : (scb [("hits" : Str), ("out" : Str), ("comes" : Str), ("row" : Str), ("order" : Str)] [("hits" : Str), ("out" : Str), ("comes" : Str)] (defScope (topS 19)) && decide (d10.ps = ([("hits" : Str), ("out" : Str), ("comes" : Str)] : List Str).length) && decide (d10.n = ([("hits" : Str), ("out" : Str), ("comes" : Str), ("row" : Str), ("order" : Str)] : List Str).length) && ckD P ⟨[("hits" : Str), ("out" : Str), ("comes" : Str), ("row" : Str), ("order" : Str)], defScope (topS 19), true, false⟩ (ckE P 60 ⟨[("hits" : Str), ("out" : Str), ("comes" : Str), ("row" : Str), ("order" : Str)], defScope (topS 19), true, false⟩) d10.body (defBody (topS 19))) = true := by decide +kernel
theorem ck11 : (scb [("places" : Str)] [("places" : Str)] (defScope (topS 20)) && decide (d11.ps = ([("places" : Str)] : List Str).length) && decide (d11.n = ([("places" : Str)] : List Str).length) && ckD P ⟨[("places" : Str)], defScope (topS 20), true, false⟩ (ckE P 60 ⟨[("places" : Str)], defScope (topS 20), true, false⟩) d11.body (defBody (topS 20))) = true := by decide +kernel
theorem ck12 : (scb [("places" : Str)] [("places" : Str)] (defScope (topS 21)) && decide (d12.ps = ([("places" : Str)] : List Str).length) && decide (d12.n = ([("places" : Str)] : List Str).length) && ckD P ⟨[("places" : Str)], defScope (topS 21), true, false⟩ (ckE P 60 ⟨[("places" : Str)], defScope (topS 21), true, false⟩) d12.body (defBody (topS 21))) = true := by decide +kernel
theorem ck13 : (scb [("places" : Str)] [("places" : Str)] (defScope (topS 22)) && decide (d13.ps = ([("places" : Str)] : List Str).length) && decide (d13.n = ([("places" : Str)] : List Str).length) && ckD P ⟨[("places" : Str)], defScope (topS 22), true, false⟩ (ckE P 60 ⟨[("places" : Str)], defScope (topS 22), true, false⟩) d13.body (defBody (topS 22))) = true := by decide +kernel
theorem ck14 : (scb [("label" : Str), ("places" : Str), ("place" : Str)] [("label" : Str), ("places" : Str)] (defScope (topS 23)) && decide (d14.ps = ([("label" : Str), ("places" : Str)] : List Str).length) && decide (d14.n = ([("label" : Str), ("places" : Str), ("place" : Str)] : List Str).length) && ckD P ⟨[("label" : Str), ("places" : Str), ("place" : Str)], defScope (topS 23), true, false⟩ (ckE P 60 ⟨[("label" : Str), ("places" : Str), ("place" : Str)], defScope (topS 23), true, false⟩) d14.body (defBody (topS 23))) = true := by decide +kernel
theorem ck15 : (scb [("marks" : Str), ("place" : Str), ("is_marked" : Str)] [("marks" : Str)] (defScope (topS 24)) && decide (d15.ps = ([("marks" : Str)] : List Str).length) && decide (d15.n = ([("marks" : Str), ("place" : Str), ("is_marked" : Str)] : List Str).length) && ckD P ⟨[("marks" : Str), ("place" : Str), ("is_marked" : Str)], defScope (topS 24), true, false⟩ (ckE P 60 ⟨[("marks" : Str), ("place" : Str), ("is_marked" : Str)], defScope (topS 24), true, false⟩) d15.body (defBody (topS 24))) = true := by decide +kernel
theorem ck16 : (scb [("label" : Str), ("places" : Str), ("marks" : Str), ("hits" : Str), ("comes" : Str), ("place" : Str), ("with_it" : Str), ("order" : Str), ("left" : Str)] [("label" : Str), ("places" : Str)] (defScope (topS 25)) && decide (d16.ps = ([("label" : Str), ("places" : Str)] : List Str).length) && decide (d16.n = ([("label" : Str), ("places" : Str), ("marks" : Str), ("hits" : Str), ("comes" : Str), ("place" : Str), ("with_it" : Str), ("order" : Str), ("left" : Str)] : List Str).length) && ckD P ⟨[("label" : Str), ("places" : Str), ("marks" : Str), ("hits" : Str), ("comes" : Str), ("place" : Str), ("with_it" : Str), ("order" : Str), ("left" : Str)], defScope (topS 25), true, false⟩ (ckE P 60 ⟨[("label" : Str), ("places" : Str), ("marks" : Str), ("hits" : Str), ("comes" : Str), ("place" : Str), ("with_it" : Str), ("order" : Str), ("left" : Str)], defScope (topS 25), true, false⟩) d16.body (defBody (topS 25))) = true := by decide +kernel
theorem ck17 : (scb [("places" : Str), ("label" : Str)] [("places" : Str)] (defScope (topS 26)) && decide (d17.ps = ([("places" : Str)] : List Str).length) && decide (d17.n = ([("places" : Str), ("label" : Str)] : List Str).length) && ckD P ⟨[("places" : Str), ("label" : Str)], defScope (topS 26), true, false⟩ (ckE P 60 ⟨[("places" : Str), ("label" : Str)], defScope (topS 26), true, false⟩) d17.body (defBody (topS 26))) = true := by decide +kernel
theorem ck18 : (scb [("rule_of" : Str), ("most" : Str), ("places" : Str)] [("rule_of" : Str), ("most" : Str)] (defScope (topS 27)) && decide (d18.ps = ([("rule_of" : Str), ("most" : Str)] : List Str).length) && decide (d18.n = ([("rule_of" : Str), ("most" : Str), ("places" : Str)] : List Str).length) && ckD P ⟨[("rule_of" : Str), ("most" : Str), ("places" : Str)], defScope (topS 27), true, false⟩ (ckE P 60 ⟨[("rule_of" : Str), ("most" : Str), ("places" : Str)], defScope (topS 27), true, false⟩) d18.body (defBody (topS 27))) = true := by decide +kernel
theorem ck19 : (scb [("thing" : Str), ("at" : Str), ("rule" : Str)] [("thing" : Str)] (defScope (topS 28)) && decide (d19.ps = ([("thing" : Str)] : List Str).length) && decide (d19.n = ([("thing" : Str), ("at" : Str), ("rule" : Str)] : List Str).length) && ckD P ⟨[("thing" : Str), ("at" : Str), ("rule" : Str)], defScope (topS 28), true, false⟩ (ckE P 60 ⟨[("thing" : Str), ("at" : Str), ("rule" : Str)], defScope (topS 28), true, false⟩) d19.body (defBody (topS 28))) = true := by decide +kernel
theorem ck20 : (scb [("_law_script" : Str), ("_law_k" : Str)] [("_law_script" : Str), ("_law_k" : Str)] (defScope (topS 30)) && decide (d20.ps = ([("_law_script" : Str), ("_law_k" : Str)] : List Str).length) && decide (d20.n = ([("_law_script" : Str), ("_law_k" : Str)] : List Str).length) && ckD P ⟨[("_law_script" : Str), ("_law_k" : Str)], defScope (topS 30), true, false⟩ (ckE P 60 ⟨[("_law_script" : Str), ("_law_k" : Str)], defScope (topS 30), true, false⟩) d20.body (defBody (topS 30))) = true := by decide +kernel
theorem ck21 : (scb [("_law_cell" : Str)] [("_law_cell" : Str)] (defScope (topS 31)) && decide (d21.ps = ([("_law_cell" : Str)] : List Str).length) && decide (d21.n = ([("_law_cell" : Str)] : List Str).length) && ckD P ⟨[("_law_cell" : Str)], defScope (topS 31), true, false⟩ (ckE P 60 ⟨[("_law_cell" : Str)], defScope (topS 31), true, false⟩) d21.body (defBody (topS 31))) = true := by decide +kernel
theorem ck22 : (scb [("_law_pen_here" : Str), ("_law_many" : Str), ("_law_digit" : Str), ("_law_stir" : Str)] [("_law_pen_here" : Str), ("_law_many" : Str)] (defScope (topS 32)) && decide (d22.ps = ([("_law_pen_here" : Str), ("_law_many" : Str)] : List Str).length) && decide (d22.n = ([("_law_pen_here" : Str), ("_law_many" : Str), ("_law_digit" : Str), ("_law_stir" : Str)] : List Str).length) && ckD P ⟨[("_law_pen_here" : Str), ("_law_many" : Str), ("_law_digit" : Str), ("_law_stir" : Str)], defScope (topS 32), true, false⟩ (ckE P 60 ⟨[("_law_pen_here" : Str), ("_law_many" : Str), ("_law_digit" : Str), ("_law_stir" : Str)], defScope (topS 32), true, false⟩) d22.body (defBody (topS 32))) = true := by decide +kernel
theorem ck23 : (scb [("_law_pen_here" : Str), ("_law_things" : Str)] [("_law_pen_here" : Str), ("_law_things" : Str)] (defScope (topS 33)) && decide (d23.ps = ([("_law_pen_here" : Str), ("_law_things" : Str)] : List Str).length) && decide (d23.n = ([("_law_pen_here" : Str), ("_law_things" : Str)] : List Str).length) && ckD P ⟨[("_law_pen_here" : Str), ("_law_things" : Str)], defScope (topS 33), true, false⟩ (ckE P 60 ⟨[("_law_pen_here" : Str), ("_law_things" : Str)], defScope (topS 33), true, false⟩) d23.body (defBody (topS 33))) = true := by decide +kernel
theorem ck24 : (scb [("_law_pen_here" : Str), ("_law_things" : Str), ("_law_rest" : Str), ("_law_found" : Str), ("_law_turn" : Str)] [("_law_pen_here" : Str), ("_law_things" : Str)] (defScope (topS 34)) && decide (d24.ps = ([("_law_pen_here" : Str), ("_law_things" : Str)] : List Str).length) && decide (d24.n = ([("_law_pen_here" : Str), ("_law_things" : Str), ("_law_rest" : Str), ("_law_found" : Str), ("_law_turn" : Str)] : List Str).length) && ckD P ⟨[("_law_pen_here" : Str), ("_law_things" : Str), ("_law_rest" : Str), ("_law_found" : Str), ("_law_turn" : Str)], defScope (topS 34), true, false⟩ (ckE P 60 ⟨[("_law_pen_here" : Str), ("_law_things" : Str), ("_law_rest" : Str), ("_law_found" : Str), ("_law_turn" : Str)], defScope (topS 34), true, false⟩) d24.body (defBody (topS 34))) = true := by decide +kernel
theorem ck25 : (scb [("_law_found" : Str), ("_law_due" : Str)] [("_law_found" : Str), ("_law_due" : Str)] (defScope (topS 35)) && decide (d25.ps = ([("_law_found" : Str), ("_law_due" : Str)] : List Str).length) && decide (d25.n = ([("_law_found" : Str), ("_law_due" : Str)] : List Str).length) && ckD P ⟨[("_law_found" : Str), ("_law_due" : Str)], defScope (topS 35), true, false⟩ (ckE P 60 ⟨[("_law_found" : Str), ("_law_due" : Str)], defScope (topS 35), true, false⟩) d25.body (defBody (topS 35))) = true := by decide +kernel
theorem ck26 : (scb [("_law_thing" : Str), ("_law_low" : Str), ("_law_high" : Str)] [("_law_thing" : Str), ("_law_low" : Str), ("_law_high" : Str)] (defScope (topS 36)) && decide (d26.ps = ([("_law_thing" : Str), ("_law_low" : Str), ("_law_high" : Str)] : List Str).length) && decide (d26.n = ([("_law_thing" : Str), ("_law_low" : Str), ("_law_high" : Str)] : List Str).length) && ckD P ⟨[("_law_thing" : Str), ("_law_low" : Str), ("_law_high" : Str)], defScope (topS 36), true, false⟩ (ckE P 60 ⟨[("_law_thing" : Str), ("_law_low" : Str), ("_law_high" : Str)], defScope (topS 36), true, false⟩) d26.body (defBody (topS 36))) = true := by decide +kernel
theorem ck27 : (scb [("_law_pen_here" : Str), ("_law_places" : Str), ("_law_labels" : Str), ("_law_found" : Str), ("_law_place" : Str), ("_law_order" : Str)] [("_law_pen_here" : Str), ("_law_places" : Str), ("_law_labels" : Str)] (defScope (topS 37)) && decide (d27.ps = ([("_law_pen_here" : Str), ("_law_places" : Str), ("_law_labels" : Str)] : List Str).length) && decide (d27.n = ([("_law_pen_here" : Str), ("_law_places" : Str), ("_law_labels" : Str), ("_law_found" : Str), ("_law_place" : Str), ("_law_order" : Str)] : List Str).length) && ckD P ⟨[("_law_pen_here" : Str), ("_law_places" : Str), ("_law_labels" : Str), ("_law_found" : Str), ("_law_place" : Str), ("_law_order" : Str)], defScope (topS 37), true, false⟩ (ckE P 60 ⟨[("_law_pen_here" : Str), ("_law_places" : Str), ("_law_labels" : Str), ("_law_found" : Str), ("_law_place" : Str), ("_law_order" : Str)], defScope (topS 37), true, false⟩) d27.body (defBody (topS 37))) = true := by decide +kernel
theorem ck28 : (scb [("_law_pen_here" : Str), ("_law_places" : Str), ("_law_labels" : Str), ("_law_rows" : Str), ("_law_turn" : Str), ("_law_at_hits" : Str), ("_law_out" : Str)] [("_law_pen_here" : Str), ("_law_places" : Str), ("_law_labels" : Str)] (defScope (topS 38)) && decide (d28.ps = ([("_law_pen_here" : Str), ("_law_places" : Str), ("_law_labels" : Str)] : List Str).length) && decide (d28.n = ([("_law_pen_here" : Str), ("_law_places" : Str), ("_law_labels" : Str), ("_law_rows" : Str), ("_law_turn" : Str), ("_law_at_hits" : Str), ("_law_out" : Str)] : List Str).length) && ckD P ⟨[("_law_pen_here" : Str), ("_law_places" : Str), ("_law_labels" : Str), ("_law_rows" : Str), ("_law_turn" : Str), ("_law_at_hits" : Str), ("_law_out" : Str)], defScope (topS 38), true, false⟩ (ckE P 60 ⟨[("_law_pen_here" : Str), ("_law_places" : Str), ("_law_labels" : Str), ("_law_rows" : Str), ("_law_turn" : Str), ("_law_at_hits" : Str), ("_law_out" : Str)], defScope (topS 38), true, false⟩) d28.body (defBody (topS 38))) = true := by decide +kernel
theorem ck29 : (scb [("_law_pen_here" : Str), ("_law_some" : Str)] [("_law_pen_here" : Str)] (defScope (topS 39)) && decide (d29.ps = ([("_law_pen_here" : Str)] : List Str).length) && decide (d29.n = ([("_law_pen_here" : Str), ("_law_some" : Str)] : List Str).length) && ckD P ⟨[("_law_pen_here" : Str), ("_law_some" : Str)], defScope (topS 39), true, false⟩ (ckE P 60 ⟨[("_law_pen_here" : Str), ("_law_some" : Str)], defScope (topS 39), true, false⟩) d29.body (defBody (topS 39))) = true := by decide +kernel
theorem ck30 : (scb [("_law_pen_here" : Str), ("_law_thing" : Str), ("_law_deep" : Str), ("_law_at" : Str), ("_law_way" : Str)] [("_law_pen_here" : Str), ("_law_thing" : Str), ("_law_deep" : Str)] (defScope (topS 40)) && decide (d30.ps = ([("_law_pen_here" : Str), ("_law_thing" : Str), ("_law_deep" : Str)] : List Str).length) && decide (d30.n = ([("_law_pen_here" : Str), ("_law_thing" : Str), ("_law_deep" : Str), ("_law_at" : Str), ("_law_way" : Str)] : List Str).length) && ckD P ⟨[("_law_pen_here" : Str), ("_law_thing" : Str), ("_law_deep" : Str), ("_law_at" : Str), ("_law_way" : Str)], defScope (topS 40), true, false⟩ (ckE P 60 ⟨[("_law_pen_here" : Str), ("_law_thing" : Str), ("_law_deep" : Str), ("_law_at" : Str), ("_law_way" : Str)], defScope (topS 40), true, false⟩) d30.body (defBody (topS 40))) = true := by decide +kernel
theorem ck31 : (scb [("_law_thing" : Str), ("_law_places" : Str), ("_law_one" : Str), ("_law_place" : Str)] [("_law_thing" : Str), ("_law_places" : Str)] (defScope (topS 41)) && decide (d31.ps = ([("_law_thing" : Str), ("_law_places" : Str)] : List Str).length) && decide (d31.n = ([("_law_thing" : Str), ("_law_places" : Str), ("_law_one" : Str), ("_law_place" : Str)] : List Str).length) && ckD P ⟨[("_law_thing" : Str), ("_law_places" : Str), ("_law_one" : Str), ("_law_place" : Str)], defScope (topS 41), true, false⟩ (ckE P 60 ⟨[("_law_thing" : Str), ("_law_places" : Str), ("_law_one" : Str), ("_law_place" : Str)], defScope (topS 41), true, false⟩) d31.body (defBody (topS 41))) = true := by decide +kernel
theorem ck32 : (scb [("_law_thing" : Str), ("_law_places" : Str), ("_law_labels" : Str), ("_law_one" : Str)] [("_law_thing" : Str), ("_law_places" : Str), ("_law_labels" : Str)] (defScope (topS 42)) && decide (d32.ps = ([("_law_thing" : Str), ("_law_places" : Str), ("_law_labels" : Str)] : List Str).length) && decide (d32.n = ([("_law_thing" : Str), ("_law_places" : Str), ("_law_labels" : Str), ("_law_one" : Str)] : List Str).length) && ckD P ⟨[("_law_thing" : Str), ("_law_places" : Str), ("_law_labels" : Str), ("_law_one" : Str)], defScope (topS 42), true, false⟩ (ckE P 60 ⟨[("_law_thing" : Str), ("_law_places" : Str), ("_law_labels" : Str), ("_law_one" : Str)], defScope (topS 42), true, false⟩) d32.body (defBody (topS 42))) = true := by decide +kernel
theorem ck33 : (scb [("_law_thing" : Str), ("_law_places" : Str), ("_law_rows" : Str), ("_law_row" : Str)] [("_law_thing" : Str)] (defScope (topS 43)) && decide (d33.ps = ([("_law_thing" : Str)] : List Str).length) && decide (d33.n = ([("_law_thing" : Str), ("_law_places" : Str), ("_law_rows" : Str), ("_law_row" : Str)] : List Str).length) && ckD P ⟨[("_law_thing" : Str), ("_law_places" : Str), ("_law_rows" : Str), ("_law_row" : Str)], defScope (topS 43), true, false⟩ (ckE P 60 ⟨[("_law_thing" : Str), ("_law_places" : Str), ("_law_rows" : Str), ("_law_row" : Str)], defScope (topS 43), true, false⟩) d33.body (defBody (topS 43))) = true := by decide +kernel
theorem ck34 : (scb [("_law_thing" : Str), ("_law_rule" : Str)] [("_law_thing" : Str)] (defScope (topS 44)) && decide (d34.ps = ([("_law_thing" : Str)] : List Str).length) && decide (d34.n = ([("_law_thing" : Str), ("_law_rule" : Str)] : List Str).length) && ckD P ⟨[("_law_thing" : Str), ("_law_rule" : Str)], defScope (topS 44), true, false⟩ (ckE P 60 ⟨[("_law_thing" : Str), ("_law_rule" : Str)], defScope (topS 44), true, false⟩) d34.body (defBody (topS 44))) = true := by decide +kernel
theorem ck35 : (scb [("_law_thing" : Str), ("_law_noted" : Str), ("_law_due" : Str)] [("_law_thing" : Str)] (defScope (topS 45)) && decide (d35.ps = ([("_law_thing" : Str)] : List Str).length) && decide (d35.n = ([("_law_thing" : Str), ("_law_noted" : Str), ("_law_due" : Str)] : List Str).length) && ckD P ⟨[("_law_thing" : Str), ("_law_noted" : Str), ("_law_due" : Str)], defScope (topS 45), true, false⟩ (ckE P 60 ⟨[("_law_thing" : Str), ("_law_noted" : Str), ("_law_due" : Str)], defScope (topS 45), true, false⟩) d35.body (defBody (topS 45))) = true := by decide +kernel
theorem ck36 : (scb [("_law_most" : Str), ("_law_some" : Str), ("_law_rule_with_name" : Str), ("_law_due" : Str), ("_law_places" : Str)] [] (defScope (topS 46)) && decide (d36.ps = ([] : List Str).length) && decide (d36.n = ([("_law_most" : Str), ("_law_some" : Str), ("_law_rule_with_name" : Str), ("_law_due" : Str), ("_law_places" : Str)] : List Str).length) && ckD P ⟨[("_law_most" : Str), ("_law_some" : Str), ("_law_rule_with_name" : Str), ("_law_due" : Str), ("_law_places" : Str)], defScope (topS 46), true, false⟩ (ckE P 60 ⟨[("_law_most" : Str), ("_law_some" : Str), ("_law_rule_with_name" : Str), ("_law_due" : Str), ("_law_places" : Str)], defScope (topS 46), true, false⟩) d36.body (defBody (topS 46))) = true := by decide +kernel
theorem ck37 : (scb [("_law_script" : Str), ("_law_k" : Str), ("_law_pen_here" : Str), ("_law_lap" : Str), ("_law_most" : Str), ("_law_rules" : Str), ("_law_at" : Str), ("_law_other" : Str), ("_law_things" : Str), ("_law_turn" : Str), ("_law_places" : Str), ("_law_thing" : Str)] [("_law_script" : Str)] (defScope (topS 47)) && decide (d37.ps = ([("_law_script" : Str)] : List Str).length) && decide (d37.n = ([("_law_script" : Str), ("_law_k" : Str), ("_law_pen_here" : Str), ("_law_lap" : Str), ("_law_most" : Str), ("_law_rules" : Str), ("_law_at" : Str), ("_law_other" : Str), ("_law_things" : Str), ("_law_turn" : Str), ("_law_places" : Str), ("_law_thing" : Str)] : List Str).length) && ckD P ⟨[("_law_script" : Str), ("_law_k" : Str), ("_law_pen_here" : Str), ("_law_lap" : Str), ("_law_most" : Str), ("_law_rules" : Str), ("_law_at" : Str), ("_law_other" : Str), ("_law_things" : Str), ("_law_turn" : Str), ("_law_places" : Str), ("_law_thing" : Str)], defScope (topS 47), true, false⟩ (ckE P 60 ⟨[("_law_script" : Str), ("_law_k" : Str), ("_law_pen_here" : Str), ("_law_lap" : Str), ("_law_most" : Str), ("_law_rules" : Str), ("_law_at" : Str), ("_law_other" : Str), ("_law_things" : Str), ("_law_turn" : Str), ("_law_places" : Str), ("_law_thing" : Str)], defScope (topS 47), true, false⟩) d37.body (defBody (topS 47))) = true := by decide +kernel
set_option maxHeartbeats 0 in
theorem all_mk {K : PySem.W.Frag} {h : Heap} {mg : Str → Option Value} {f0 f1 f2 f3 f4 f5 f6 f7 f8 f9 f10 f11 f12 f13 f14 f15 f16 f17 f18 f19 f20 f21 f22 f23 f24 f25 f26 f27 f28 f29 f30 f31 f32 f33 f34 f35 f36 f37 : Addr} (X : K.In h) (G : h.Ns mainGlobals mg)
    {od0 an0 od1 an1 od2 an2 od3 an3 od4 an4 od5 an5 od6 an6 od7 an7 od8 an8 od9 an9 od10 an10 od11 an11 od12 an12 od13 an13 od14 an14 od15 an15 od16 an16 od17 an17 od18 an18 od19 an19 od20 an20 od21 an21 od22 an22 od23 an23 od24 an24 od25 an25 od26 an26 od27 an27 od28 an28 od29 an29 od30 an30 od31 an31 od32 an32 od33 an33 od34 an34 od35 an35 od36 an36 od37 an37 : Option Addr} {sl0 sl1 sl2 sl3 sl4 sl5 sl6 sl7 sl8 sl9 sl10 sl11 sl12 sl13 sl14 sl15 sl16 sl17 sl18 sl19 sl20 sl21 sl22 sl23 sl24 sl25 sl26 sl27 sl28 sl29 sl30 sl31 sl32 sl33 sl34 sl35 sl36 sl37 : Array (Option Value)} {kV0 dc0 pm0 cd0 ct0 kV1 dc1 pm1 cd1 ct1 kV2 dc2 pm2 cd2 ct2 kV3 dc3 pm3 cd3 ct3 kV4 dc4 pm4 cd4 ct4 kV5 dc5 pm5 cd5 ct5 kV6 dc6 pm6 cd6 ct6 kV7 dc7 pm7 cd7 ct7 kV8 dc8 pm8 cd8 ct8 kV9 dc9 pm9 cd9 ct9 kV10 dc10 pm10 cd10 ct10 kV11 dc11 pm11 cd11 ct11 kV12 dc12 pm12 cd12 ct12 kV13 dc13 pm13 cd13 ct13 kV14 dc14 pm14 cd14 ct14 kV15 dc15 pm15 cd15 ct15 kV16 dc16 pm16 cd16 ct16 kV17 dc17 pm17 cd17 ct17 kV18 dc18 pm18 cd18 ct18 kV19 dc19 pm19 cd19 ct19 kV20 dc20 pm20 cd20 ct20 kV21 dc21 pm21 cd21 ct21 kV22 dc22 pm22 cd22 ct22 kV23 dc23 pm23 cd23 ct23 kV24 dc24 pm24 cd24 ct24 kV25 dc25 pm25 cd25 ct25 kV26 dc26 pm26 cd26 ct26 kV27 dc27 pm27 cd27 ct27 kV28 dc28 pm28 cd28 ct28 kV29 dc29 pm29 cd29 ct29 kV30 dc30 pm30 cd30 ct30 kV31 dc31 pm31 cd31 ct31 kV32 dc32 pm32 cd32 ct32 kV33 dc33 pm33 cd33 ct33 kV34 dc34 pm34 cd34 ct34 kV35 dc35 pm35 cd35 ct35 kV36 dc36 pm36 cd36 ct36 kV37 dc37 pm37 cd37 ct37 : Value} {mv0 mv1 mv2 : Value} {mt0 mt1 : Tok} {ma2 : Addr} {un2 : Nat} {us2 : Array (Option Value)} {ut2_0 ut2_1 ut2_2 ut2_3 ut2_4 : Tok}
    (a0 : PySem.W.nsIn K mainGlobals "is_whole" = some (some (.ref f0))) (l0 : K.lookup f0 = some ⟨.type "function", od0, .func (PySem.W.fnOf "is_whole" "is_whole" (defArgs (topS 7)) (defBody (topS 7)) (defScope (topS 7)) .none kV0 dc0 pm0 an0 cd0 ct0), sl0⟩) (c0 : PySem.W.codeIn K cd0 "is_whole" = true) (k0 : PySem.W.keepIn K (.ref f0) = true)
    (a1 : PySem.W.nsIn K mainGlobals "is_order" = some (some (.ref f1))) (l1 : K.lookup f1 = some ⟨.type "function", od1, .func (PySem.W.fnOf "is_order" "is_order" (defArgs (topS 8)) (defBody (topS 8)) (defScope (topS 8)) .none kV1 dc1 pm1 an1 cd1 ct1), sl1⟩) (c1 : PySem.W.codeIn K cd1 "is_order" = true) (k1 : PySem.W.keepIn K (.ref f1) = true)
    (a2 : PySem.W.nsIn K mainGlobals "is_move" = some (some (.ref f2))) (l2 : K.lookup f2 = some ⟨.type "function", od2, .func (PySem.W.fnOf "is_move" "is_move" (defArgs (topS 9)) (defBody (topS 9)) (defScope (topS 9)) .none kV2 dc2 pm2 an2 cd2 ct2), sl2⟩) (c2 : PySem.W.codeIn K cd2 "is_move" = true) (k2 : PySem.W.keepIn K (.ref f2) = true)
    (a3 : PySem.W.nsIn K mainGlobals "are_moves" = some (some (.ref f3))) (l3 : K.lookup f3 = some ⟨.type "function", od3, .func (PySem.W.fnOf "are_moves" "are_moves" (defArgs (topS 10)) (defBody (topS 10)) (defScope (topS 10)) .none kV3 dc3 pm3 an3 cd3 ct3), sl3⟩) (c3 : PySem.W.codeIn K cd3 "are_moves" = true) (k3 : PySem.W.keepIn K (.ref f3) = true)
    (a4 : PySem.W.nsIn K mainGlobals "is_label_row" = some (some (.ref f4))) (l4 : K.lookup f4 = some ⟨.type "function", od4, .func (PySem.W.fnOf "is_label_row" "is_label_row" (defArgs (topS 11)) (defBody (topS 11)) (defScope (topS 11)) .none kV4 dc4 pm4 an4 cd4 ct4), sl4⟩) (c4 : PySem.W.codeIn K cd4 "is_label_row" = true) (k4 : PySem.W.keepIn K (.ref f4) = true)
    (a5 : PySem.W.nsIn K mainGlobals "is_rule" = some (some (.ref f5))) (l5 : K.lookup f5 = some ⟨.type "function", od5, .func (PySem.W.fnOf "is_rule" "is_rule" (defArgs (topS 12)) (defBody (topS 12)) (defScope (topS 12)) .none kV5 dc5 pm5 an5 cd5 ct5), sl5⟩) (c5 : PySem.W.codeIn K cd5 "is_rule" = true) (k5 : PySem.W.keepIn K (.ref f5) = true)
    (a6 : PySem.W.nsIn K mainGlobals "need_places" = some (some (.ref f6))) (l6 : K.lookup f6 = some ⟨.type "function", od6, .func (PySem.W.fnOf "need_places" "need_places" (defArgs (topS 15)) (defBody (topS 15)) (defScope (topS 15)) .none kV6 dc6 pm6 an6 cd6 ct6), sl6⟩) (c6 : PySem.W.codeIn K cd6 "need_places" = true) (k6 : PySem.W.keepIn K (.ref f6) = true)
    (a7 : PySem.W.nsIn K mainGlobals "same_order" = some (some (.ref f7))) (l7 : K.lookup f7 = some ⟨.type "function", od7, .func (PySem.W.fnOf "same_order" "same_order" (defArgs (topS 16)) (defBody (topS 16)) (defScope (topS 16)) .none kV7 dc7 pm7 an7 cd7 ct7), sl7⟩) (c7 : PySem.W.codeIn K cd7 "same_order" = true) (k7 : PySem.W.keepIn K (.ref f7) = true)
    (a8 : PySem.W.nsIn K mainGlobals "front_order" = some (some (.ref f8))) (l8 : K.lookup f8 = some ⟨.type "function", od8, .func (PySem.W.fnOf "front_order" "front_order" (defArgs (topS 17)) (defBody (topS 17)) (defScope (topS 17)) .none kV8 dc8 pm8 an8 cd8 ct8), sl8⟩) (c8 : PySem.W.codeIn K cd8 "front_order" = true) (k8 : PySem.W.keepIn K (.ref f8) = true)
    (a9 : PySem.W.nsIn K mainGlobals "front_orders" = some (some (.ref f9))) (l9 : K.lookup f9 = some ⟨.type "function", od9, .func (PySem.W.fnOf "front_orders" "front_orders" (defArgs (topS 18)) (defBody (topS 18)) (defScope (topS 18)) .none kV9 dc9 pm9 an9 cd9 ct9), sl9⟩) (c9 : PySem.W.codeIn K cd9 "front_orders" = true) (k9 : PySem.W.keepIn K (.ref f9) = true)
    (a10 : PySem.W.nsIn K mainGlobals "lone_rule" = some (some (.ref f10))) (l10 : K.lookup f10 = some ⟨.type "function", od10, .func (PySem.W.fnOf "lone_rule" "lone_rule" (defArgs (topS 19)) (defBody (topS 19)) (defScope (topS 19)) .none kV10 dc10 pm10 an10 cd10 ct10), sl10⟩) (c10 : PySem.W.codeIn K cd10 "lone_rule" = true) (k10 : PySem.W.keepIn K (.ref f10) = true)
    (a11 : PySem.W.nsIn K mainGlobals "recent" = some (some (.ref f11))) (l11 : K.lookup f11 = some ⟨.type "function", od11, .func (PySem.W.fnOf "recent" "recent" (defArgs (topS 20)) (defBody (topS 20)) (defScope (topS 20)) .none kV11 dc11 pm11 an11 cd11 ct11), sl11⟩) (c11 : PySem.W.codeIn K cd11 "recent" = true) (k11 : PySem.W.keepIn K (.ref f11) = true)
    (a12 : PySem.W.nsIn K mainGlobals "queue" = some (some (.ref f12))) (l12 : K.lookup f12 = some ⟨.type "function", od12, .func (PySem.W.fnOf "queue" "queue" (defArgs (topS 21)) (defBody (topS 21)) (defScope (topS 21)) .none kV12 dc12 pm12 an12 cd12 ct12), sl12⟩) (c12 : PySem.W.codeIn K cd12 "queue" = true) (k12 : PySem.W.keepIn K (.ref f12) = true)
    (a13 : PySem.W.nsIn K mainGlobals "newest" = some (some (.ref f13))) (l13 : K.lookup f13 = some ⟨.type "function", od13, .func (PySem.W.fnOf "newest" "newest" (defArgs (topS 22)) (defBody (topS 22)) (defScope (topS 22)) .none kV13 dc13 pm13 an13 cd13 ct13), sl13⟩) (c13 : PySem.W.codeIn K cd13 "newest" = true) (k13 : PySem.W.keepIn K (.ref f13) = true)
    (a14 : PySem.W.nsIn K mainGlobals "marks_of" = some (some (.ref f14))) (l14 : K.lookup f14 = some ⟨.type "function", od14, .func (PySem.W.fnOf "marks_of" "marks_of" (defArgs (topS 23)) (defBody (topS 23)) (defScope (topS 23)) .none kV14 dc14 pm14 an14 cd14 ct14), sl14⟩) (c14 : PySem.W.codeIn K cd14 "marks_of" = true) (k14 : PySem.W.keepIn K (.ref f14) = true)
    (a15 : PySem.W.nsIn K mainGlobals "label_of" = some (some (.ref f15))) (l15 : K.lookup f15 = some ⟨.type "function", od15, .func (PySem.W.fnOf "label_of" "label_of" (defArgs (topS 24)) (defBody (topS 24)) (defScope (topS 24)) .none kV15 dc15 pm15 an15 cd15 ct15), sl15⟩) (c15 : PySem.W.codeIn K cd15 "label_of" = true) (k15 : PySem.W.keepIn K (.ref f15) = true)
    (a16 : PySem.W.nsIn K mainGlobals "chance_row" = some (some (.ref f16))) (l16 : K.lookup f16 = some ⟨.type "function", od16, .func (PySem.W.fnOf "chance_row" "chance_row" (defArgs (topS 25)) (defBody (topS 25)) (defScope (topS 25)) .none kV16 dc16 pm16 an16 cd16 ct16), sl16⟩) (c16 : PySem.W.codeIn K cd16 "chance_row" = true) (k16 : PySem.W.keepIn K (.ref f16) = true)
    (a17 : PySem.W.nsIn K mainGlobals "chance" = some (some (.ref f17))) (l17 : K.lookup f17 = some ⟨.type "function", od17, .func (PySem.W.fnOf "chance" "chance" (defArgs (topS 26)) (defBody (topS 26)) (defScope (topS 26)) .none kV17 dc17 pm17 an17 cd17 ct17), sl17⟩) (c17 : PySem.W.codeIn K cd17 "chance" = true) (k17 : PySem.W.keepIn K (.ref f17) = true)
    (a18 : PySem.W.nsIn K mainGlobals "family" = some (some (.ref f18))) (l18 : K.lookup f18 = some ⟨.type "function", od18, .func (PySem.W.fnOf "family" "family" (defArgs (topS 27)) (defBody (topS 27)) (defScope (topS 27)) .none kV18 dc18 pm18 an18 cd18 ct18), sl18⟩) (c18 : PySem.W.codeIn K cd18 "family" = true) (k18 : PySem.W.keepIn K (.ref f18) = true)
    (a19 : PySem.W.nsIn K mainGlobals "is_family" = some (some (.ref f19))) (l19 : K.lookup f19 = some ⟨.type "function", od19, .func (PySem.W.fnOf "is_family" "is_family" (defArgs (topS 28)) (defBody (topS 28)) (defScope (topS 28)) .none kV19 dc19 pm19 an19 cd19 ct19), sl19⟩) (c19 : PySem.W.codeIn K cd19 "is_family" = true) (k19 : PySem.W.keepIn K (.ref f19) = true)
    (a20 : PySem.W.nsIn K mainGlobals "_law_cell_at" = some (some (.ref f20))) (l20 : K.lookup f20 = some ⟨.type "function", od20, .func (PySem.W.fnOf "_law_cell_at" "_law_cell_at" (defArgs (topS 30)) (defBody (topS 30)) (defScope (topS 30)) .none kV20 dc20 pm20 an20 cd20 ct20), sl20⟩) (c20 : PySem.W.codeIn K cd20 "_law_cell_at" = true) (k20 : PySem.W.keepIn K (.ref f20) = true)
    (a21 : PySem.W.nsIn K mainGlobals "_law_pen" = some (some (.ref f21))) (l21 : K.lookup f21 = some ⟨.type "function", od21, .func (PySem.W.fnOf "_law_pen" "_law_pen" (defArgs (topS 31)) (defBody (topS 31)) (defScope (topS 31)) .none kV21 dc21 pm21 an21 cd21 ct21), sl21⟩) (c21 : PySem.W.codeIn K cd21 "_law_pen" = true) (k21 : PySem.W.keepIn K (.ref f21) = true)
    (a22 : PySem.W.nsIn K mainGlobals "_law_draw" = some (some (.ref f22))) (l22 : K.lookup f22 = some ⟨.type "function", od22, .func (PySem.W.fnOf "_law_draw" "_law_draw" (defArgs (topS 32)) (defBody (topS 32)) (defScope (topS 32)) .none kV22 dc22 pm22 an22 cd22 ct22), sl22⟩) (c22 : PySem.W.codeIn K cd22 "_law_draw" = true) (k22 : PySem.W.keepIn K (.ref f22) = true)
    (a23 : PySem.W.nsIn K mainGlobals "_law_pick" = some (some (.ref f23))) (l23 : K.lookup f23 = some ⟨.type "function", od23, .func (PySem.W.fnOf "_law_pick" "_law_pick" (defArgs (topS 33)) (defBody (topS 33)) (defScope (topS 33)) .none kV23 dc23 pm23 an23 cd23 ct23), sl23⟩) (c23 : PySem.W.codeIn K cd23 "_law_pick" = true) (k23 : PySem.W.keepIn K (.ref f23) = true)
    (a24 : PySem.W.nsIn K mainGlobals "_law_mixed" = some (some (.ref f24))) (l24 : K.lookup f24 = some ⟨.type "function", od24, .func (PySem.W.fnOf "_law_mixed" "_law_mixed" (defArgs (topS 34)) (defBody (topS 34)) (defScope (topS 34)) .none kV24 dc24 pm24 an24 cd24 ct24), sl24⟩) (c24 : PySem.W.codeIn K cd24 "_law_mixed" = true) (k24 : PySem.W.keepIn K (.ref f24) = true)
    (a25 : PySem.W.nsIn K mainGlobals "_law_same" = some (some (.ref f25))) (l25 : K.lookup f25 = some ⟨.type "function", od25, .func (PySem.W.fnOf "_law_same" "_law_same" (defArgs (topS 35)) (defBody (topS 35)) (defScope (topS 35)) .none kV25 dc25 pm25 an25 cd25 ct25), sl25⟩) (c25 : PySem.W.codeIn K cd25 "_law_same" = true) (k25 : PySem.W.keepIn K (.ref f25) = true)
    (a26 : PySem.W.nsIn K mainGlobals "_law_whole" = some (some (.ref f26))) (l26 : K.lookup f26 = some ⟨.type "function", od26, .func (PySem.W.fnOf "_law_whole" "_law_whole" (defArgs (topS 36)) (defBody (topS 36)) (defScope (topS 36)) .none kV26 dc26 pm26 an26 cd26 ct26), sl26⟩) (c26 : PySem.W.codeIn K cd26 "_law_whole" = true) (k26 : PySem.W.keepIn K (.ref f26) = true)
    (a27 : PySem.W.nsIn K mainGlobals "_law_moves" = some (some (.ref f27))) (l27 : K.lookup f27 = some ⟨.type "function", od27, .func (PySem.W.fnOf "_law_moves" "_law_moves" (defArgs (topS 37)) (defBody (topS 37)) (defScope (topS 37)) .none kV27 dc27 pm27 an27 cd27 ct27), sl27⟩) (c27 : PySem.W.codeIn K cd27 "_law_moves" = true) (k27 : PySem.W.keepIn K (.ref f27) = true)
    (a28 : PySem.W.nsIn K mainGlobals "_law_drawn" = some (some (.ref f28))) (l28 : K.lookup f28 = some ⟨.type "function", od28, .func (PySem.W.fnOf "_law_drawn" "_law_drawn" (defArgs (topS 38)) (defBody (topS 38)) (defScope (topS 38)) .none kV28 dc28 pm28 an28 cd28 ct28), sl28⟩) (c28 : PySem.W.codeIn K cd28 "_law_drawn" = true) (k28 : PySem.W.keepIn K (.ref f28) = true)
    (a29 : PySem.W.nsIn K mainGlobals "_law_odd" = some (some (.ref f29))) (l29 : K.lookup f29 = some ⟨.type "function", od29, .func (PySem.W.fnOf "_law_odd" "_law_odd" (defArgs (topS 39)) (defBody (topS 39)) (defScope (topS 39)) .none kV29 dc29 pm29 an29 cd29 ct29), sl29⟩) (c29 : PySem.W.codeIn K cd29 "_law_odd" = true) (k29 : PySem.W.keepIn K (.ref f29) = true)
    (a30 : PySem.W.nsIn K mainGlobals "_law_bent" = some (some (.ref f30))) (l30 : K.lookup f30 = some ⟨.type "function", od30, .func (PySem.W.fnOf "_law_bent" "_law_bent" (defArgs (topS 40)) (defBody (topS 40)) (defScope (topS 40)) .none kV30 dc30 pm30 an30 cd30 ct30), sl30⟩) (c30 : PySem.W.codeIn K cd30 "_law_bent" = true) (k30 : PySem.W.keepIn K (.ref f30) = true)
    (a31 : PySem.W.nsIn K mainGlobals "_law_is_order" = some (some (.ref f31))) (l31 : K.lookup f31 = some ⟨.type "function", od31, .func (PySem.W.fnOf "_law_is_order" "_law_is_order" (defArgs (topS 41)) (defBody (topS 41)) (defScope (topS 41)) .none kV31 dc31 pm31 an31 cd31 ct31), sl31⟩) (c31 : PySem.W.codeIn K cd31 "_law_is_order" = true) (k31 : PySem.W.keepIn K (.ref f31) = true)
    (a32 : PySem.W.nsIn K mainGlobals "_law_are_moves" = some (some (.ref f32))) (l32 : K.lookup f32 = some ⟨.type "function", od32, .func (PySem.W.fnOf "_law_are_moves" "_law_are_moves" (defArgs (topS 42)) (defBody (topS 42)) (defScope (topS 42)) .none kV32 dc32 pm32 an32 cd32 ct32), sl32⟩) (c32 : PySem.W.codeIn K cd32 "_law_are_moves" = true) (k32 : PySem.W.keepIn K (.ref f32) = true)
    (a33 : PySem.W.nsIn K mainGlobals "_law_is_rule" = some (some (.ref f33))) (l33 : K.lookup f33 = some ⟨.type "function", od33, .func (PySem.W.fnOf "_law_is_rule" "_law_is_rule" (defArgs (topS 43)) (defBody (topS 43)) (defScope (topS 43)) .none kV33 dc33 pm33 an33 cd33 ct33), sl33⟩) (c33 : PySem.W.codeIn K cd33 "_law_is_rule" = true) (k33 : PySem.W.keepIn K (.ref f33) = true)
    (a34 : PySem.W.nsIn K mainGlobals "_law_is_family" = some (some (.ref f34))) (l34 : K.lookup f34 = some ⟨.type "function", od34, .func (PySem.W.fnOf "_law_is_family" "_law_is_family" (defArgs (topS 44)) (defBody (topS 44)) (defScope (topS 44)) .none kV34 dc34 pm34 an34 cd34 ct34), sl34⟩) (c34 : PySem.W.codeIn K cd34 "_law_is_family" = true) (k34 : PySem.W.keepIn K (.ref f34) = true)
    (a35 : PySem.W.nsIn K mainGlobals "_law_right" = some (some (.ref f35))) (l35 : K.lookup f35 = some ⟨.type "function", od35, .func (PySem.W.fnOf "_law_right" "_law_right" (defArgs (topS 45)) (defBody (topS 45)) (defScope (topS 45)) .none kV35 dc35 pm35 an35 cd35 ct35), sl35⟩) (c35 : PySem.W.codeIn K cd35 "_law_right" = true) (k35 : PySem.W.keepIn K (.ref f35) = true)
    (a36 : PySem.W.nsIn K mainGlobals "_law_made_right" = some (some (.ref f36))) (l36 : K.lookup f36 = some ⟨.type "function", od36, .func (PySem.W.fnOf "_law_made_right" "_law_made_right" (defArgs (topS 46)) (defBody (topS 46)) (defScope (topS 46)) .none kV36 dc36 pm36 an36 cd36 ct36), sl36⟩) (c36 : PySem.W.codeIn K cd36 "_law_made_right" = true) (k36 : PySem.W.keepIn K (.ref f36) = true)
    (a37 : PySem.W.nsIn K mainGlobals "law" = some (some (.ref f37))) (l37 : K.lookup f37 = some ⟨.type "function", od37, .func (PySem.W.fnOf "law" "law" (defArgs (topS 47)) (defBody (topS 47)) (defScope (topS 47)) .none kV37 dc37 pm37 an37 cd37 ct37), sl37⟩) (c37 : PySem.W.codeIn K cd37 "law" = true) (k37 : PySem.W.keepIn K (.ref f37) = true)
    (m0 : PySem.W.nsIn K mainGlobals "MOST_LABELS" = some (some mv0)) (n0 : mv0 = .int 16 mt0)
    (m1 : PySem.W.nsIn K mainGlobals "MOST_PLACES" = some (some mv1)) (n1 : mv1 = .int 4 mt1)
    (m2 : PySem.W.nsIn K mainGlobals "POWERS" = some (some mv2)) (n2 : mv2 = .ref ma2) (u2 : K.lookup ma2 = some ⟨.type "tuple", none, .seq #[.int 1 ut2_0, .int 2 ut2_1, .int 4 ut2_2, .int 8 ut2_3, .int 16 ut2_4] un2, us2⟩)
    (z0 : PySem.W.nsIn K mainGlobals "all" = some none)
    (z1 : PySem.W.nsIn K mainGlobals "bool" = some none)
    (z2 : PySem.W.nsIn K mainGlobals "enumerate" = some none)
    (z3 : PySem.W.nsIn K mainGlobals "int" = some none)
    (z4 : PySem.W.nsIn K mainGlobals "isinstance" = some none)
    (z5 : PySem.W.nsIn K mainGlobals "len" = some none)
    (z6 : PySem.W.nsIn K mainGlobals "list" = some none)
    (z7 : PySem.W.nsIn K mainGlobals "max" = some none)
    (z8 : PySem.W.nsIn K mainGlobals "min" = some none)
    (z9 : PySem.W.nsIn K mainGlobals "range" = some none)
    (z10 : PySem.W.nsIn K mainGlobals "repr" = some none)
    (z11 : PySem.W.nsIn K mainGlobals "sorted" = some none)
    (z12 : PySem.W.nsIn K mainGlobals "sum" = some none)
    (z13 : PySem.W.nsIn K mainGlobals "tuple" = some none)
    : DefsF K mg P 60 P.fns T ∧ ModF ⟨K, mg, P.fns, P.exs⟩ P mg := by
  refine ⟨⟨defF (st := topS 7) X G ["thing", "low", "high"] ["thing", "low", "high"] a0 l0 c0 k0 (fun _ _ _ _ _ _ us hl => match us, hl with | [_, _, _], _ => rfl) ck0, defF (st := topS 8) X G ["thing", "places", "one"] ["thing", "places"] a1 l1 c1 k1 (fun _ _ _ _ _ _ us hl => match us, hl with | [_, _], _ => rfl) ck1, defF (st := topS 9) X G ["thing", "places", "labels"] ["thing", "places", "labels"] a2 l2 c2 k2 (fun _ _ _ _ _ _ us hl => match us, hl with | [_, _, _], _ => rfl) ck2, defF (st := topS 10) X G ["thing", "places", "labels", "one"] ["thing", "places", "labels"] a3 l3 c3 k3 (fun _ _ _ _ _ _ us hl => match us, hl with | [_, _, _], _ => rfl) ck3, defF (st := topS 11) X G ["thing", "places", "labels", "hits", "out", "comes"] ["thing", "places", "labels"] a4 l4 c4 k4 (fun _ _ _ _ _ _ us hl => match us, hl with | [_, _, _], _ => rfl) ck4, defF (st := topS 12) X G ["thing", "places", "labels", "one"] ["thing"] a5 l5 c5 k5 (fun _ _ _ _ _ _ us hl => match us, hl with | [_], _ => rfl) ck5, defF (st := topS 15) X G ["places"] ["places"] a6 l6 c6 k6 (fun _ _ _ _ _ _ us hl => match us, hl with | [_], _ => rfl) ck6, defF (st := topS 16) X G ["places"] ["places"] a7 l7 c7 k7 (fun _ _ _ _ _ _ us hl => match us, hl with | [_], _ => rfl) ck7, defF (st := topS 17) X G ["place", "places", "one"] ["place", "places"] a8 l8 c8 k8 (fun _ _ _ _ _ _ us hl => match us, hl with | [_, _], _ => rfl) ck8, defF (st := topS 18) X G ["places", "place"] ["places"] a9 l9 c9 k9 (fun _ _ _ _ _ _ us hl => match us, hl with | [_], _ => rfl) ck9, defF (st := topS 19) X G ["hits", "out", "comes", "row", "order"] ["hits", "out", "comes"] a10 l10 c10 k10 (fun _ _ _ _ _ _ us hl => match us, hl with | [_, _, _], _ => rfl) ck10, defF (st := topS 20) X G ["places"] ["places"] a11 l11 c11 k11 (fun _ _ _ _ _ _ us hl => match us, hl with | [_], _ => rfl) ck11, defF (st := topS 21) X G ["places"] ["places"] a12 l12 c12 k12 (fun _ _ _ _ _ _ us hl => match us, hl with | [_], _ => rfl) ck12, defF (st := topS 22) X G ["places"] ["places"] a13 l13 c13 k13 (fun _ _ _ _ _ _ us hl => match us, hl with | [_], _ => rfl) ck13, defF (st := topS 23) X G ["label", "places", "place"] ["label", "places"] a14 l14 c14 k14 (fun _ _ _ _ _ _ us hl => match us, hl with | [_, _], _ => rfl) ck14, defF (st := topS 24) X G ["marks", "place", "is_marked"] ["marks"] a15 l15 c15 k15 (fun _ _ _ _ _ _ us hl => match us, hl with | [_], _ => rfl) ck15, defF (st := topS 25) X G ["label", "places", "marks", "hits", "comes", "place", "with_it", "order", "left"] ["label", "places"] a16 l16 c16 k16 (fun _ _ _ _ _ _ us hl => match us, hl with | [_, _], _ => rfl) ck16, defF (st := topS 26) X G ["places", "label"] ["places"] a17 l17 c17 k17 (fun _ _ _ _ _ _ us hl => match us, hl with | [_], _ => rfl) ck17, defF (st := topS 27) X G ["rule_of", "most", "places"] ["rule_of", "most"] a18 l18 c18 k18 (fun _ _ _ _ _ _ us hl => match us, hl with | [_, _], _ => rfl) ck18, defF (st := topS 28) X G ["thing", "at", "rule"] ["thing"] a19 l19 c19 k19 (fun _ _ _ _ _ _ us hl => match us, hl with | [_], _ => rfl) ck19, defF (st := topS 30) X G ["_law_script", "_law_k"] ["_law_script", "_law_k"] a20 l20 c20 k20 (fun _ _ _ _ _ _ us hl => match us, hl with | [_, _], _ => rfl) ck20, defF (st := topS 31) X G ["_law_cell"] ["_law_cell"] a21 l21 c21 k21 (fun _ _ _ _ _ _ us hl => match us, hl with | [_], _ => rfl) ck21, defF (st := topS 32) X G ["_law_pen_here", "_law_many", "_law_digit", "_law_stir"] ["_law_pen_here", "_law_many"] a22 l22 c22 k22 (fun _ _ _ _ _ _ us hl => match us, hl with | [_, _], _ => rfl) ck22, defF (st := topS 33) X G ["_law_pen_here", "_law_things"] ["_law_pen_here", "_law_things"] a23 l23 c23 k23 (fun _ _ _ _ _ _ us hl => match us, hl with | [_, _], _ => rfl) ck23, defF (st := topS 34) X G ["_law_pen_here", "_law_things", "_law_rest", "_law_found", "_law_turn"] ["_law_pen_here", "_law_things"] a24 l24 c24 k24 (fun _ _ _ _ _ _ us hl => match us, hl with | [_, _], _ => rfl) ck24, defF (st := topS 35) X G ["_law_found", "_law_due"] ["_law_found", "_law_due"] a25 l25 c25 k25 (fun _ _ _ _ _ _ us hl => match us, hl with | [_, _], _ => rfl) ck25, defF (st := topS 36) X G ["_law_thing", "_law_low", "_law_high"] ["_law_thing", "_law_low", "_law_high"] a26 l26 c26 k26 (fun _ _ _ _ _ _ us hl => match us, hl with | [_, _, _], _ => rfl) ck26, defF (st := topS 37) X G ["_law_pen_here", "_law_places", "_law_labels", "_law_found", "_law_place", "_law_order"] ["_law_pen_here", "_law_places", "_law_labels"] a27 l27 c27 k27 (fun _ _ _ _ _ _ us hl => match us, hl with | [_, _, _], _ => rfl) ck27, defF (st := topS 38) X G ["_law_pen_here", "_law_places", "_law_labels", "_law_rows", "_law_turn", "_law_at_hits", "_law_out"] ["_law_pen_here", "_law_places", "_law_labels"] a28 l28 c28 k28 (fun _ _ _ _ _ _ us hl => match us, hl with | [_, _, _], _ => rfl) ck28, defF (st := topS 39) X G ["_law_pen_here", "_law_some"] ["_law_pen_here"] a29 l29 c29 k29 (fun _ _ _ _ _ _ us hl => match us, hl with | [_], _ => rfl) ck29, defF (st := topS 40) X G ["_law_pen_here", "_law_thing", "_law_deep", "_law_at", "_law_way"] ["_law_pen_here", "_law_thing", "_law_deep"] a30 l30 c30 k30 (fun _ _ _ _ _ _ us hl => match us, hl with | [_, _, _], _ => rfl) ck30, defF (st := topS 41) X G ["_law_thing", "_law_places", "_law_one", "_law_place"] ["_law_thing", "_law_places"] a31 l31 c31 k31 (fun _ _ _ _ _ _ us hl => match us, hl with | [_, _], _ => rfl) ck31, defF (st := topS 42) X G ["_law_thing", "_law_places", "_law_labels", "_law_one"] ["_law_thing", "_law_places", "_law_labels"] a32 l32 c32 k32 (fun _ _ _ _ _ _ us hl => match us, hl with | [_, _, _], _ => rfl) ck32, defF (st := topS 43) X G ["_law_thing", "_law_places", "_law_rows", "_law_row"] ["_law_thing"] a33 l33 c33 k33 (fun _ _ _ _ _ _ us hl => match us, hl with | [_], _ => rfl) ck33, defF (st := topS 44) X G ["_law_thing", "_law_rule"] ["_law_thing"] a34 l34 c34 k34 (fun _ _ _ _ _ _ us hl => match us, hl with | [_], _ => rfl) ck34, defF (st := topS 45) X G ["_law_thing", "_law_noted", "_law_due"] ["_law_thing"] a35 l35 c35 k35 (fun _ _ _ _ _ _ us hl => match us, hl with | [_], _ => rfl) ck35, defF (st := topS 46) X G ["_law_most", "_law_some", "_law_rule_with_name", "_law_due", "_law_places"] [] a36 l36 c36 k36 (fun _ _ _ _ _ _ us hl => match us, hl with | [], _ => rfl) ck36, defF (st := topS 47) X G ["_law_script", "_law_k", "_law_pen_here", "_law_lap", "_law_most", "_law_rules", "_law_at", "_law_other", "_law_things", "_law_turn", "_law_places", "_law_thing"] ["_law_script"] a37 l37 c37 k37 (fun _ _ _ _ _ _ us hl => match us, hl with | [_], _ => rfl) ck37, trivial⟩, ?_, ?_⟩
  · intro x hx
    simp only [P, List.mem_cons, List.not_mem_nil, or_false] at hx
    rcases hx with rfl | rfl | rfl | rfl | rfl | rfl | rfl | rfl | rfl | rfl | rfl | rfl | rfl | rfl
    · exact PySem.W.mg_none_of X G z0
    · exact PySem.W.mg_none_of X G z1
    · exact PySem.W.mg_none_of X G z2
    · exact PySem.W.mg_none_of X G z3
    · exact PySem.W.mg_none_of X G z4
    · exact PySem.W.mg_none_of X G z5
    · exact PySem.W.mg_none_of X G z6
    · exact PySem.W.mg_none_of X G z7
    · exact PySem.W.mg_none_of X G z8
    · exact PySem.W.mg_none_of X G z9
    · exact PySem.W.mg_none_of X G z10
    · exact PySem.W.mg_none_of X G z11
    · exact PySem.W.mg_none_of X G z12
    · exact PySem.W.mg_none_of X G z13
  · intro x v hv
    have hm := PySem.mem_of_lookup hv
    simp only [P, List.mem_cons, List.not_mem_nil, or_false, Prod.mk.injEq] at hm
    rcases hm with ⟨rfl, rfl⟩ | ⟨rfl, rfl⟩ | ⟨rfl, rfl⟩
    · exact ⟨_, .int 16, PySem.W.mg_of X G m0, ⟨mt0, n0⟩, fun W => by rw [Rep]⟩
    · exact ⟨_, .int 4, PySem.W.mg_of X G m1, ⟨mt1, n1⟩, fun W => by rw [Rep]⟩
    · refine ⟨_, .ref ma2, PySem.W.mg_of X G m2, n2, fun W => ?_⟩
      rw [Rep]
      exact ⟨ma2, [.int 1, .int 2, .int 4, .int 8, .int 16], rfl, .inr ⟨_, _, _, u2, rfl, rfl, rfl, by show 5 ≤ sizeLine; rw [sizeLine_eq]; omega, .cons ⟨_, rfl⟩ (.cons ⟨_, rfl⟩ (.cons ⟨_, rfl⟩ (.cons ⟨_, rfl⟩ (.cons ⟨_, rfl⟩ (.nil)))))⟩, reps_ints [1, 2, 4, 8, 16]⟩
end K13
namespace K13
open PySem L2 Gz
theorem t0 : T[0]? = some WholeD := rfl
theorem t1 : T[1]? = some (OrdD 0) := rfl
theorem t2 : T[2]? = some (MoveD 0 1) := rfl
theorem t3 : T[3]? = some (MovesD 2) := rfl
theorem t4 : T[4]? = some (RowD 0 3) := rfl
theorem t5 : T[5]? = some (RuleD 0 4) := rfl
theorem t6 : T[6]? = some d6 := rfl
theorem t7 : T[7]? = some d7 := rfl
theorem t8 : T[8]? = some FrontD := rfl
theorem t9 : T[9]? = some d9 := rfl
theorem t10 : T[10]? = some d10 := rfl
theorem t11 : T[11]? = some d11 := rfl
theorem t12 : T[12]? = some d12 := rfl
theorem t13 : T[13]? = some d13 := rfl
theorem t14 : T[14]? = some d14 := rfl
theorem t15 : T[15]? = some d15 := rfl
theorem t16 : T[16]? = some d16 := rfl
theorem t17 : T[17]? = some d17 := rfl
theorem t18 : T[18]? = some (FamilyD 6 12 11 13 17 .nev) := rfl
theorem t19 : T[19]? = some (IsFamD 5) := rfl
theorem t20 : T[20]? = some CellD := rfl
theorem t21 : T[21]? = some PenD := rfl
theorem t22 : T[22]? = some Draw := rfl
theorem t23 : T[23]? = some (PickD 22) := rfl
theorem t24 : T[24]? = some (MixD 22) := rfl
theorem t25 : T[25]? = some SameD := rfl
theorem t26 : T[26]? = some WholeD := rfl
theorem t27 : T[27]? = some (MvsD 22 24) := rfl
theorem t28 : T[28]? = some (DrawnD 22 27) := rfl
theorem t29 : T[29]? = some (OddD 23) := rfl
theorem t30 : T[30]? = some (BentD 26 22 23 29 30) := rfl
theorem t31 : T[31]? = some (LOrdD 26) := rfl
theorem t32 : T[32]? = some (LMovesD 26 31) := rfl
theorem t33 : T[33]? = some (LRuleD 32 26) := rfl
theorem t34 : T[34]? = some (LIsFamD 33) := rfl
theorem t35 : T[35]? = some d35 := rfl
theorem t36 : T[36]? = some d36 := rfl
theorem t37 : T[37]? = some d37 := rfl
end K13
namespace K13
open PySem L2 Gz
theorem mem4 {p : Nat} (h : p ∈ [1, 2, 3, 4]) : p = 1 ∨ p = 2 ∨ p = 3 ∨ p = 4 := by simpa using h
def rOf (f p : Nat) : Ru := if f = 12 then lRule p 0 false (p - 1) else if f = 11 then lRule p 0 true (p - 1) else if f = 13 then lRule p 0 true 0 else chRule p
theorem named {f p : Nat} (hf : f ∈ [12, 11, 13, 17]) (hp : p ∈ [1, 2, 3, 4]) {k : Nat} {s : Sto} : callN T (k + 8) f [.int p] s = .ok (.val (rOf f p).v) s := by
  have hf : f = 12 ∨ f = 11 ∨ f = 13 ∨ f = 17 := by simpa using hf
  rcases hf with rfl | rfl | rfl | rfl <;> rcases mem4 hp with rfl | rfl | rfl | rfl <;> kernel_rfl
def rV (f : Nat) : Val → Val
  | .int p => (rOf f p.toNat).v
  | v => v
def fmV (f : Nat) (m : Int) : Val := .tup (((rngI 1 (m + 1)).map Val.int).map (rV f))
theorem fm_ok : ([12, 11, 13, 17].all fun f => [1, 2, 3, 4].all fun m : Int => fine (fmV f m) && decide (dp (fmV f m) ≤ 10) && decide (wt (fmV f m) ≤ 2000000)) = true := by decide +kernel
theorem fm {f : Nat} {m : Int} (hf : f ∈ [12, 11, 13, 17]) (hm : m ∈ [(1 : Int), 2, 3, 4]) : fine (fmV f m) = true ∧ dp (fmV f m) ≤ 10 ∧ wt (fmV f m) ≤ 2000000 := by
  have := List.all_eq_true.mp (List.all_eq_true.mp fm_ok f hf) m hm
  simp only [Bool.and_eq_true, decide_eq_true_eq] at this
  exact ⟨this.1.1, this.1.2, this.2⟩
theorem rngM {m : Int} (hm : m ∈ [(1 : Int), 2, 3, 4]) : rngOk 1 (m + 1) = true ∧ (rngI 1 (m + 1)).length ≤ 4 ∧ ∀ x ∈ (rngI 1 (m + 1)).map Val.int, ∃ p : Nat, x = .int p ∧ p ∈ [1, 2, 3, 4] := by
  have hm : m = 1 ∨ m = 2 ∨ m = 3 ∨ m = 4 := by simpa using hm
  rcases hm with rfl | rfl | rfl | rfl
  · exact ⟨by decide, by decide, fun x hx => by
      have : x = .int 1 := by simpa [rngI] using hx
      exact ⟨1, this, by decide⟩⟩
  · exact ⟨by decide, by decide, fun x hx => by
      have : x = .int 1 ∨ x = .int 2 := by simpa [rngI, List.range_succ] using hx
      rcases this with h | h
      · exact ⟨1, h, by decide⟩
      · exact ⟨2, h, by decide⟩⟩
  · exact ⟨by decide, by decide, fun x hx => by
      have : x = .int 1 ∨ x = .int 2 ∨ x = .int 3 := by simpa [rngI, List.range_succ] using hx
      rcases this with h | h | h
      · exact ⟨1, h, by decide⟩
      · exact ⟨2, h, by decide⟩
      · exact ⟨3, h, by decide⟩⟩
  · exact ⟨by decide, by decide, fun x hx => by
      have : x = .int 1 ∨ x = .int 2 ∨ x = .int 3 ∨ x = .int 4 := by simpa [rngI, List.range_succ] using hx
      rcases this with h | h | h | h
      · exact ⟨1, h, by decide⟩
      · exact ⟨2, h, by decide⟩
      · exact ⟨3, h, by decide⟩
      · exact ⟨4, h, by decide⟩⟩
theorem lcM {k f : Nat} {m : Int} {s : Sto} (hf : f ∈ [12, 11, 13, 17]) (hm : m ∈ [(1 : Int), 2, 3, 4]) {r : Rho} {i j c : Nat} (ri : r[i]? = some (some (.val (.fn f)))) (rj : r[j]? = some (some (.val (.int m)))) (rc : r[c]? = some none) (hc : i ≠ c) :
    evE (callN T (k + 8)) (.lc (.rng (.so (.cst (.int 1))) (.bin .add (.var j) (.cst (.int 1)))) [c] .no (.callv (.var i) (.cons (.var c) .nil))) r s = .ok (.fr (((rngI 1 (m + 1)).map Val.int).map (rV f))) r s := by
  obtain ⟨h1, h2, h3⟩ := rngM hm
  have sn : r.set c none = r := by
    apply List.ext_getElem?
    intro q
    by_cases h : c = q
    · subst h
      rcases Nat.lt_or_ge c r.length with h | h
      · rw [List.getElem?_set_self h, rc]
      · rw [List.getElem?_eq_none h] at rc; cases rc
    · rw [List.getElem?_set_ne h]
  rw [ev_lc]
  have e : evI (callN T (k + 8)) (.rng (.so (.cst (.int 1))) (.bin .add (.var j) (.cst (.int 1)))) r s = .ok ((rngI 1 (m + 1)).map .int) r s := by
    simp -implicitDefEqProofs [rj, h1]
  rw [e, bind_ok, lc_map (g := rV f) [] (by have := le_line (n := (rngI 1 (m + 1)).length) (by omega); simpa using this) ?_]
  · simp [sn]
  · intro x hx
    obtain ⟨p, rfl, hp⟩ := h3 x hx
    have n := named (k := k) (s := s) hf hp
    have lc : c < r.length := by
      rcases Nat.lt_or_ge c r.length with h | h
      · exact h
      · rw [List.getElem?_eq_none h] at rc; cases rc
    have ri' : (r.set c (some (.val (.int p))))[i]? = some (some (.val (.fn f))) := by rw [List.getElem?_set_ne (Ne.symm hc)]; exact ri
    have rc' : (r.set c (some (.val (.int p))))[c]? = some (some (.val (.int p))) := List.getElem?_set_self lc
    have rv : rV f (.int p) = (rOf f p).v := rfl
    rw [rv]
    generalize (rOf f p).v = V at *
    simp -implicitDefEqProofs [turnF, lc, n, ri', rc', sn]
theorem needP {k : Nat} {m : Int} {s : Sto} (hm : m ∈ [(1 : Int), 2, 3, 4]) : callN T (k + 2) 6 [.int m] s = .ok (.val .non) s := by
  have hm : m = 1 ∨ m = 2 ∨ m = 3 ∨ m = 4 := by simpa using hm
  rcases hm with rfl | rfl | rfl | rfl <;> kernel_rfl
theorem family {k f : Nat} {m : Int} {s : Sto} (hf : f ∈ [12, 11, 13, 17]) (hm : m ∈ [(1 : Int), 2, 3, 4]) : callN T (k + 9) 18 [.fn f, .int m] s = .ok (.val (fmV f m)) s := by
  have l0 : evE (callN T (k + 8)) (FamilyD_l0 6 12 11 13 17 .nev) [some (.val (.fn f)), some (.val (.int m)), none] s = .ok (.fr (((rngI 1 (m + 1)).map Val.int).map (rV f))) [some (.val (.fn f)), some (.val (.int m)), none] s := by
    unfold FamilyD_l0
    exact lcM hf hm rfl rfl rfl (by decide)
  have np := needP (k := k + 6) (s := s) hm
  rw [callN_eq t18]
  have hf : f = 12 ∨ f = 11 ∨ f = 13 ∨ f = 17 := by simpa using hf
  unfold fmV
  generalize (((rngI 1 (m + 1)).map Val.int).map (rV f)) = V at *
  rcases hf with rfl | rfl | rfl | rfl <;> simp -implicitDefEqProofs [runD, FamilyD, l0, np]
theorem ru {k : Nat} {s : Sto} (v : Val) (hv : fine v = true) : callN T (k + 6) 5 [v] s = .ok (.val (.bl (isRule v))) s := rule t0 t1 t2 t3 t4 t5 hv
theorem lru {k : Nat} {s : Sto} (v : Val) (hv : fine v = true) : callN T (k + 4) 33 [v] s = .ok (.val (.bl (isRule v))) s := lrule t26 t31 t32 t33 hv
theorem right {k : Nat} {s : Sto} {v : Val} (hv : fine v = true) (hd : dp v ≤ 60) (hw : wt v ≤ sizeLine) : callN T (k + 8) 35 [v] s = .ok (.val (.bl true)) s := by
  obtain ⟨z, hz⟩ := rep_fine hv hd hw
  obtain ⟨y, hy⟩ := rep_fine (v := .lst [.bl (famB v), .bl (famB v)]) rfl (by cases famB v <;> decide) (by cases famB v <;> decide)
  have l2 : (2 : Nat) ≤ sizeLine := by decide
  have sm := same (k := k + 6) (s := s) t25 (v := .lst [.bl (famB v), .bl (famB v)]) (w := .lst [.bl (famB v), .bl (famB v)]) rfl rfl hy hy
  have f1 := fam (k := k + 6) (s := s) (fun v hv => ru v hv) t19 hv
  have f2 := lfam (k := k + 6) (s := s) (fun v hv => lru (k := k + 2) v hv) t34 hv
  rw [callN_eq t35]
  simp -implicitDefEqProofs [-deref, runD, d35, deref_fine hv, hz, f1, f2, l2, sm]
theorem turn1 {k f : Nat} {m : Int} {s : Sto} (hf : f ∈ [12, 11, 13, 17]) (hm : m ∈ [(1 : Int), 2, 3, 4]) {x1 x2 x3 : Option Slot} :
    turnB (callN T (k + 9)) [2] d36_b1 (.fn f) [some (.val (.int m)), x1, x2, x3, none] s = .ok .next [some (.val (.int m)), x1, some (.val (.fn f)), some (.val (fmV f m)), none] s := by
  have l0 : evE (callN T (k + 9)) d36_l0 [some (.val (.int m)), x1, some (.val (.fn f)), x3, none] s = .ok (.fr (((rngI 1 (m + 1)).map Val.int).map (rV f))) [some (.val (.int m)), x1, some (.val (.fn f)), x3, none] s := by
    unfold d36_l0
    exact lcM (k := k + 1) hf hm rfl rfl rfl (by decide)
  have fa := family (k := k) (s := s) hf hm
  obtain ⟨v1, v2, v3⟩ := fm hf hm
  have rt := right (k := k + 1) (s := s) v1 (by omega) (Nat.le_trans v3 (by decide))
  have e0 : Val.tup (((rngI 1 (m + 1)).map Val.int).map (rV f)) = fmV f m := rfl
  generalize (((rngI 1 (m + 1)).map Val.int).map (rV f)) = V at *
  generalize fmV f m = W at *
  have ff : fine (.lst [W, W]) = true := by rw [fine, fines_iff]; intro x hx; have : x = W := by simpa using hx
                                            rw [this]; exact v1
  have dd : dp (.lst [W, W]) ≤ 60 := by
    have : dps [W, W] ≤ 10 := dps_le.mpr fun y hy => by
      have : y = W := by simpa using hy
      rw [this]; exact v2
    rw [dp]; omega
  have ww : wt (.lst [W, W]) ≤ sizeLine := by
    have e : sizeLine = 16777216 := rfl
    simp only [wt, wts]
    omega
  obtain ⟨z, hz⟩ := rep_fine ff dd ww
  have sm := same (k := k + 8) (s := s) t25 ff ff hz hz
  have l2 : (2 : Nat) ≤ sizeLine := by decide
  simp -implicitDefEqProofs [turnB, d36_b1, l0, e0, fa, sm, rt, l2]
theorem turn3 {k : Nat} {m : Int} {s : Sto} (hm : m ∈ [(1 : Int), 2, 3, 4]) {x0 x1 x2 x3 : Option Slot} :
    ∃ y1 y2 y3, turnB (callN T (k + 9)) [0] d36_b3 (.int m) [x0, x1, x2, x3, none] s = .ok .next [some (.val (.int m)), y1, y2, y3, none] s := by
  have lp : exS (callN T (k + 9)) d36_f1 [some (.val (.int m)), some (.own [.fn 12, .fn 11, .fn 13, .fn 17]), x2, x3, none] s = .ok .next [some (.val (.int m)), some (.val (.lst [.fn 12, .fn 11, .fn 13, .fn 17])), some (.val (.fn 17)), some (.val (fmV 17 m)), none] s := by
    unfold d36_f1
    rw [ex_for]
    have e : evI (callN T (k + 9)) (.seq (.var 1)) [some (.val (.int m)), some (.own [.fn 12, .fn 11, .fn 13, .fn 17]), x2, x3, none] s = .ok [.fn 12, .fn 11, .fn 13, .fn 17] [some (.val (.int m)), some (.val (.lst [.fn 12, .fn 11, .fn 13, .fn 17])), x2, x3, none] s := by
      simp -implicitDefEqProofs
    rw [e, bind_ok, forLoop, turn1 (by decide) hm, bind_ok]
    dsimp only
    rw [forLoop, turn1 (by decide) hm, bind_ok]
    dsimp only
    rw [forLoop, turn1 (by decide) hm, bind_ok]
    dsimp only
    rw [forLoop, turn1 (by decide) hm, bind_ok]
    dsimp only
    rw [forLoop]
  refine ⟨some (.val (.lst [.fn 12, .fn 11, .fn 13, .fn 17])), some (.val (.fn 17)), some (.val (fmV 17 m)), ?_⟩
  have l4 : (4 : Nat) ≤ sizeLine := by decide
  generalize fmV 17 m = W at *
  simp -implicitDefEqProofs [turnB, d36_b3, lp, l4]
theorem made {k : Nat} {s : Sto} : callN T (k + 10) 36 [] s = .ok (.val (.bl true)) s := by
  obtain ⟨a1, a2, a3, e1⟩ := turn3 (k := k) (m := 1) (s := s) (by decide) (x0 := none) (x1 := none) (x2 := none) (x3 := none)
  obtain ⟨b1, b2, b3, e2⟩ := turn3 (k := k) (m := 2) (s := s) (by decide) (x0 := some (.val (.int 1))) (x1 := a1) (x2 := a2) (x3 := a3)
  obtain ⟨c1, c2, c3, e3⟩ := turn3 (k := k) (m := 3) (s := s) (by decide) (x0 := some (.val (.int 2))) (x1 := b1) (x2 := b2) (x3 := b3)
  obtain ⟨d1, d2, d3, e4⟩ := turn3 (k := k) (m := 4) (s := s) (by decide) (x0 := some (.val (.int 3))) (x1 := c1) (x2 := c2) (x3 := c3)
  have lp : exS (callN T (k + 9)) d36_f3 [none, none, none, none, none] s = .ok .next [some (.val (.int 4)), d1, d2, d3, none] s := by
    unfold d36_f3
    rw [ex_for]
    have e : evI (callN T (k + 9)) (.seq (.tup (.cons (.cst (.int 1)) (.cons (.cst (.int 2)) (.cons (.cst (.int 3)) (.cons (.cst (.int 4)) .nil)))))) [none, none, none, none, none] s = .ok [.int 1, .int 2, .int 3, .int 4] [none, none, none, none, none] s := by
      simp -implicitDefEqProofs [le_line]
    rw [e, bind_ok, forLoop, e1, bind_ok]
    dsimp only
    rw [forLoop, e2, bind_ok]
    dsimp only
    rw [forLoop, e3, bind_ok]
    dsimp only
    rw [forLoop, e4, bind_ok]
    dsimp only
    rw [forLoop]
  rw [callN_eq t36]
  simp -implicitDefEqProofs [runD, d36, lp]
end K13
namespace K13
open PySem L2 Gz
abbrev Th (v : Val) : Prop := Fit v 12 4000000
abbrev Rf (v : Val) : Prop := Fit v 6 400000
theorem rule_fit {p l : Int} {v : Val} (h : RuOk p l v) (h0 : 0 ≤ p) (h1 : p ≤ 5) (h2 : l ≤ 3) : Rf v := by
  obtain ⟨f1, f2, f3⟩ := h.fine h0 h1 (by omega)
  exact ⟨f1, f2, by omega⟩
theorem tup_th {xs : List Val} (h : ∀ x ∈ xs, Rf x) (hl : xs.length ≤ 9) : Th (.tup xs) := (Fit.tup h).le (by omega) (by omega)
theorem lst_th {xs : List Val} (h : ∀ x ∈ xs, Rf x) (hl : xs.length ≤ 9) : Th (.lst xs) := (Fit.lst h).le (by omega) (by omega)
/-- the rules -/
theorem rulesL {k i : Nat} {s : Sto} {n m : Int} (hp : Pen s i n) (hn : n + 20000 < 1000000000000000000) (h1 : 1 ≤ m) (h4 : m ≤ 4) {x0 x1 x3 x5 x6 x7 x8 x9 x10 x11 : Option Slot} :
    ∃ (rs : List Val) (s' : Sto), evE (callN T (k + 4)) d37_l3 [x0, x1, some (.val (.loc i)), x3, some (.val (.int m)), x5, x6, x7, x8, x9, x10, x11] s = .ok (.fr rs) [x0, x1, some (.val (.loc i)), x3, some (.val (.int m)), x5, x6, x7, x8, x9, none, x11] s' ∧ (∀ x ∈ rs, Rf x) ∧ (rs.length : Int) = m ∧ Pen s' i (n + 12000) := by
  unfold d37_l3
  rw [ev_lc]
  have e : evI (callN T (k + 4)) (.rng .no (.var 4)) [x0, x1, some (.val (.loc i)), x3, some (.val (.int m)), x5, x6, x7, x8, x9, x10, x11] s = .ok ((rngI 0 m).map .int) [x0, x1, some (.val (.loc i)), x3, some (.val (.int m)), x5, x6, x7, x8, x9, x10, x11] s := by
    simp -implicitDefEqProofs [rng_small (show (0 : Int) ≤ m by omega) (by omega)]
  rw [e, bind_ok]
  obtain ⟨acc, r', s3, e3, rfl, hm, hl, q3⟩ := lc_ok (f := turnF (callN T (k + 4)) [10] .no (.call 28 (.cons (.var 2) (.cons (.bin .add (.var 10) (.cst (.int 1))) (.cons (.bin .add (.cst (.int 1)) (.call 22 (.cons (.var 2) (.cons (.cst (.int 3)) .nil)))) .nil)))))
    (fun j acc r' s' => r' = [x0, x1, some (.val (.loc i)), x3, some (.val (.int m)), x5, x6, x7, x8, x9, none, x11] ∧ (∀ x ∈ acc, Rf x) ∧ acc.length = j ∧ Pen s' i (n + 3000 * j))
    (xs := (rngI 0 m).map Val.int) (r := [x0, x1, some (.val (.loc i)), x3, some (.val (.int m)), x5, x6, x7, x8, x9, none, x11]) (s := s) ⟨rfl, by simp, rfl, by simpa using hp⟩ (by have := le_line (n := m.toNat) (by omega); rw [rngLen]; simpa using this) (fun j x acc r' s' hx hI => by
      obtain ⟨rfl, ha, hl, q⟩ := hI
      have hj : j < m.toNat := by have := lt_of_get hx; rw [rngLen] at this; exact this
      have := rng_get hx
      rw [Int.zero_add] at this
      subst this
      obtain ⟨d, s1, e1, d0, d3, p1, l1⟩ := draw (k := k + 3) t22 q (by omega) (m := 3) (by decide) (by decide)
      obtain ⟨v, s2, e2, h2, p2, l2⟩ := drawn (k := k) t22 t24 t27 t28 p1 (by omega) (p := (j : Int) + 1) (l := 1 + d) (by omega) (by omega) (by omega) (by omega)
      refine ⟨some v, _, s2, ?_, rfl, ?_, ?_, p2.le (by omega)⟩
      · simp -implicitDefEqProofs [turnF, e1, e2]
      · intro x hx
        have : x ∈ acc ++ [v] := hx
        rcases List.mem_append.mp this with h | h
        · exact ha x h
        · rw [List.mem_singleton.mp h]
          exact rule_fit h2 (by omega) (by omega) (by omega)
      · show (acc ++ [v]).length = j + 1
        rw [List.length_append, hl]; rfl)
  rw [rngLen] at hl q3
  refine ⟨acc, s3, ?_, hm, by omega, q3.le (by omega)⟩
  have w : wipeR [x0, x1, some (Slot.val (.loc i)), x3, some (.val (.int m)), x5, x6, x7, x8, x9, x10, x11] [10] = [x0, x1, some (Slot.val (.loc i)), x3, some (.val (.int m)), x5, x6, x7, x8, x9, none, x11] := rfl
  first
    | (rw [w, e3]; rfl)
    | (simp -implicitDefEqProofs [w, e3])
theorem bentTurn {k i : Nat} {s : Sto} {q : Int} {rs vs : List Val} (hr : ∀ x ∈ rs, Rf x) (hl : rs.length ≤ 4) (hp : Pen s i q) (hn : q + 1000 < 1000000000000000000) (hv : ∀ v ∈ vs, Th v) (hl2 : vs.length ≤ 100) {x : Val} {x0 x1 x3 x4 x6 x7 x9 x10 x11 : Option Slot} :
    ∃ (vs' : List Val) (s' : Sto), turnB (callN T (k + 12)) [9] d37_b1 x [x0, x1, some (.val (.loc i)), x3, x4, some (.val (.tup rs)), x6, x7, some (.own vs), x9, x10, x11] s = .ok .next [x0, x1, some (.val (.loc i)), x3, x4, some (.val (.tup rs)), x6, x7, some (.own vs'), some (.val x), x10, x11] s' ∧ (∀ v ∈ vs', Th v) ∧ vs'.length = vs.length + 2 ∧ Pen s' i (q + 40) := by
  have ft := Fit.tup hr
  have w1 := ft.w
  have w2 : wt (.tup rs) ≤ 1700000 := by omega
  obtain ⟨w, s1, e1, f1, f2, f3, p1, l1⟩ := bent (T := T) t22 t23 t26 t29 t30 8 k hp (by omega) ft.f (by omega)
  obtain ⟨o, s2, e2, g1, g2, g3, p2, l2⟩ := odd (k := k + 9) t22 t23 t29 p1 (by omega)
  have fd := ft.d
  have ad : binop .add (.lst vs) (.lst [w, o]) = some (.fr (vs ++ [w, o])) := b_addL (le_line (by simp; omega))
  refine ⟨vs ++ [w, o], s2, ?_, ?_, by simp, p2.le (by omega)⟩
  · have e1 : callN T (k + 12) 30 [.loc i, .tup rs, .int 8] s = .ok (.val w) s1 := e1
    simp -implicitDefEqProofs [turnB, d37_b1, e1, e2, ad, le_line]
  · intro v hv'
    rcases List.mem_append.mp hv' with h | h
    · exact hv v h
    · rcases List.mem_cons.mp h with rfl | h
      · exact ⟨f1, by omega, by omega⟩
      · rw [List.mem_singleton.mp h]
        exact ⟨g1, by omega, by omega⟩
theorem bents {k i : Nat} {s : Sto} {q : Int} {rs vs : List Val} (hr : ∀ x ∈ rs, Rf x) (hl : rs.length ≤ 4) (hp : Pen s i q) (hn : q + 2000 < 1000000000000000000) (hv : ∀ v ∈ vs, Th v) (hl2 : vs.length ≤ 20) {x0 x1 x3 x4 x6 x7 x9 x10 x11 : Option Slot} :
    ∃ (vs' : List Val) (y9 : Option Slot) (s' : Sto), exS (callN T (k + 12)) d37_f1 [x0, x1, some (.val (.loc i)), x3, x4, some (.val (.tup rs)), x6, x7, some (.own vs), x9, x10, x11] s = .ok .next [x0, x1, some (.val (.loc i)), x3, x4, some (.val (.tup rs)), x6, x7, some (.own vs'), y9, x10, x11] s' ∧ (∀ v ∈ vs', Th v) ∧ vs'.length ≤ 40 ∧ Pen s' i (q + 240) := by
  unfold d37_f1
  rw [ex_for, rng_list (by omega) (by omega), bind_ok]
  obtain ⟨r', s3, e3, vs', y9, rfl, hv3, hl3, q3⟩ := for_ok (f := turnB (callN T (k + 12)) [9] d37_b1)
    (fun j r' s' => ∃ (vs' : List Val) (y9 : Option Slot), r' = [x0, x1, some (.val (.loc i)), x3, x4, some (.val (.tup rs)), x6, x7, some (.own vs'), y9, x10, x11] ∧ (∀ v ∈ vs', Th v) ∧ vs'.length = vs.length + 2 * j ∧ Pen s' i (q + 40 * j))
    (xs := (rngI 0 6).map Val.int) (r := [x0, x1, some (.val (.loc i)), x3, x4, some (.val (.tup rs)), x6, x7, some (.own vs), x9, x10, x11]) (s := s) ⟨vs, x9, rfl, hv, rfl, by simpa using hp⟩ (fun j x r' s' hx hI => by
      obtain ⟨vs', y9, rfl, hv3, hl3, q3⟩ := hI
      have hj : j < 6 := by have := lt_of_get hx; rw [rngLen] at this; exact this
      obtain ⟨vs2, s4, e4, h4, l4, q4⟩ := bentTurn (k := k) hr hl q3 (by omega) hv3 (by omega) (x := x) (x0 := x0) (x1 := x1) (x3 := x3) (x4 := x4) (x6 := x6) (x7 := x7) (x9 := y9) (x10 := x10) (x11 := x11)
      exact ⟨_, s4, e4, vs2, _, rfl, h4, by omega, q4.le (by omega)⟩)
  rw [rngLen] at hl3 q3
  have : (6 : Int).toNat = 6 := rfl
  exact ⟨vs', y9, s3, e3, hv3, by omega, q3.le (by omega)⟩
theorem rights {k : Nat} {s : Sto} {vs : List Val} (hv : ∀ v ∈ vs, Th v) (hl : vs.length ≤ 100) {x0 x1 x2 x3 x4 x5 x6 x7 x9 x10 x11 : Option Slot} :
    evE (callN T (k + 8)) d37_l0 [x0, x1, x2, x3, x4, x5, x6, x7, some (.own vs), x9, x10, x11] s = .ok (.fr (List.replicate vs.length (.bl true))) [x0, x1, x2, x3, x4, x5, x6, x7, some (.val (.lst vs)), x9, x10, none] s := by
  unfold d37_l0
  rw [ev_lc]
  have e : evI (callN T (k + 8)) (.seq (.var 8)) [x0, x1, x2, x3, x4, x5, x6, x7, some (.own vs), x9, x10, x11] s = .ok vs [x0, x1, x2, x3, x4, x5, x6, x7, some (.val (.lst vs)), x9, x10, x11] s := by
    simp -implicitDefEqProofs
  rw [e, bind_ok, lc_map (g := fun _ => .bl true) [] (by have := le_line (n := vs.length) (by omega); simpa using this) ?_]
  · have : vs.map (fun _ => Val.bl true) = List.replicate vs.length (.bl true) := List.map_const ..
    simp [this]
  · intro x hx
    have := right (k := k) (s := s) (hv x hx).f (by have := (hv x hx).d; omega) (Nat.le_trans (hv x hx).w (by decide))
    simp -implicitDefEqProofs [turnF, this]
end K13
namespace K13
open PySem L2 Gz
theorem lapV {F : FT} {s s1 s2 s3 s4 s5 s6 : Sto} {i a : Nat} {m d q : Int} {rs vs vs' : List Val} {x v0 ot : Val} {x0 x1 x3 x4 x5 x6 x7 x8 x9 x10 x11 y9 : Option Slot} (hm : 1 + d = m) (ha : a ≤ rs.length) (hl : rs.length ≤ 4) (h0 : atI rs 0 = some v0)
    (e1 : F 22 [.loc i, .int 4] s = .ok (.val (.int d)) s1)
    (e2 : evE F d37_l3 [x0, x1, some (.val (.loc i)), some (.val x), some (.val (.int m)), x5, x6, x7, x8, x9, x10, x11] s1 = .ok (.fr rs) [x0, x1, some (.val (.loc i)), some (.val x), some (.val (.int m)), x5, x6, x7, x8, x9, none, x11] s2)
    (e3 : F 22 [.loc i, .int m] s2 = .ok (.val (.int a)) s3)
    (e4 : F 22 [.loc i, .int 4] s3 = .ok (.val (.int q)) s4)
    (e5 : F 28 [.loc i, .int (1 + q), .int 2] s4 = .ok (.val ot) s5)
    (ev : vs = [.tup rs, .lst rs, .tup rs.reverse, .tup rs.tail, .tup (rs ++ rs), .tup (rs.take a ++ rs.drop (a + 1)), .tup [], .non, .tup (rs.take a ++ ot :: rs.drop (a + 1)), .tup (rs ++ [ot]), .tup [.tup rs], v0, .lst [v0]])
    (e6 : exS F d37_f1 [x0, x1, some (.val (.loc i)), some (.val x), some (.val (.int m)), some (.val (.tup rs)), some (.val (.int a)), some (.val ot), some (.own vs), x9, none, x11] s5 = .ok .next [x0, x1, some (.val (.loc i)), some (.val x), some (.val (.int m)), some (.val (.tup rs)), some (.val (.int a)), some (.val ot), some (.own vs'), y9, none, x11] s6)
    (e7 : evE F d37_l0 [x0, x1, some (.val (.loc i)), some (.val x), some (.val (.int m)), some (.val (.tup rs)), some (.val (.int a)), some (.val ot), some (.own vs'), y9, none, x11] s6 = .ok (.fr (List.replicate vs'.length (.bl true))) [x0, x1, some (.val (.loc i)), some (.val x), some (.val (.int m)), some (.val (.tup rs)), some (.val (.int a)), some (.val ot), some (.val (.lst vs')), y9, none, none] s6) :
    turnB F [3] d37_b4 x [x0, x1, some (.val (.loc i)), x3, x4, x5, x6, x7, x8, x9, x10, x11] s = .ok .next [x0, x1, some (.val (.loc i)), some (.val x), some (.val (.int m)), some (.val (.tup rs)), some (.val (.int a)), some (.val ot), some (.val (.lst vs')), y9, none, none] s6 := by
  have lt : (rs.take a).length = a := by rw [List.length_take]; omega
  have ld1 : (rs.drop (a + 1)).length = rs.length - (a + 1) := List.length_drop
  have ad : ∀ {us ws : List Val}, us.length + ws.length ≤ 1000 → binop .add (.tup us) (.tup ws) = some (.val (.tup (us ++ ws))) := fun h => b_addT (le_line (by omega))
  have b0 := ad (us := rs) (ws := rs) (by omega)
  have b1 := ad (us := rs.take a) (ws := rs.drop (a + 1)) (by omega)
  have b2 := ad (us := rs.take a) (ws := [ot]) (by simp; omega)
  have b3 := ad (us := rs.take a ++ [ot]) (ws := rs.drop (a + 1)) (by simp; omega)
  have b4 := ad (us := rs) (ws := [ot]) (by simp; omega)
  have c1 : cut rs (some 1) none = rs.tail := by rw [← List.drop_one]; exact cut_lo rs 1
  have lr : rs.length ≤ 1000 := by omega
  have al : binop .add (.lst [.tup rs, .lst rs, .tup rs.reverse, .tup rs.tail, .tup (rs ++ rs), .tup (rs.take a ++ rs.drop (a + 1)), .tup [], .non]) (.lst [.tup (rs.take a ++ ot :: rs.drop (a + 1)), .tup (rs ++ [ot]), .tup [.tup rs], v0, .lst [v0]]) = some (.fr vs) := by
    subst ev
    exact b_addL (le_line (by simp))
  generalize hvs : vs = ws at *
  simp -implicitDefEqProofs [turnB, d37_b4, e1, hm, e2, e3, e4, e5, b0, b1, b2, b3, b4, c1, cut_lo1, cut_hi, h0, lr, le_line, al, e6, e7, bools_rep]
theorem lap {k i : Nat} {s : Sto} {n : Int} {x : Val} (hp : Pen s i n) (hn : n + 40000 < 1000000000000000000) {x0 x1 x3 x4 x5 x6 x7 x8 x9 x10 x11 : Option Slot} :
    ∃ (ys : List (Option Slot)) (s' : Sto), turnB (callN T (k + 12)) [3] d37_b4 x [x0, x1, some (.val (.loc i)), x3, x4, x5, x6, x7, x8, x9, x10, x11] s = .ok .next (x0 :: x1 :: some (.val (.loc i)) :: ys) s' ∧ ys.length = 9 ∧ Pen s' i (n + 20000) := by
  obtain ⟨d, s1, e1, d0, d4, p1, l1⟩ := draw (k := k + 11) t22 hp (by omega) (m := 4) (by decide) (by decide)
  obtain ⟨rs, s2, e2, hr, hl, p2⟩ := rulesL (k := k + 8) (m := 1 + d) p1 (by omega) (by omega) (by omega) (x0 := x0) (x1 := x1) (x3 := some (.val x)) (x5 := x5) (x6 := x6) (x7 := x7) (x8 := x8) (x9 := x9) (x10 := x10) (x11 := x11)
  obtain ⟨a, s3, e3, a0, a4, p3, l3⟩ := draw (k := k + 11) t22 p2 (by omega) (m := 1 + d) (by omega) (by omega)
  obtain ⟨q, s4, e4, q0, q4, p4, l4⟩ := draw (k := k + 11) t22 p3 (by omega) (m := 4) (by decide) (by decide)
  obtain ⟨ot, s5, e5, ho, p5, l5⟩ := drawn (k := k + 8) t22 t24 t27 t28 p4 (by omega) (p := 1 + q) (l := 2) (by omega) (by omega) (by omega) (by omega)
  obtain ⟨a, rfl⟩ := toNat_of a0
  have fo : Rf ot := rule_fit ho (by omega) (by omega) (by omega)
  have hlen : rs.length ≤ 4 := by omega
  obtain ⟨v0, r0, rfl⟩ : ∃ v0 r0, rs = v0 :: r0 := by
    cases rs with
    | nil => simp at hl; omega
    | cons v r => exact ⟨v, r, rfl⟩
  have f0 := hr v0 (by simp)
  have h0 : atI (v0 :: r0) 0 = some v0 := atI_nat (xs := v0 :: r0) (j := 0) (v := v0) rfl
  generalize hrs : v0 :: r0 = rs at *
  have sub : ∀ {xs : List Val}, (∀ x ∈ xs, x ∈ rs ∨ x = ot) → ∀ x ∈ xs, Rf x := fun {xs} h x hx => by
    rcases h x hx with h | h
    · exact hr x h
    · rw [h]; exact fo
  have hv : ∀ v ∈ [.tup rs, .lst rs, .tup rs.reverse, .tup rs.tail, .tup (rs ++ rs), .tup (rs.take a ++ rs.drop (a + 1)), .tup [], .non, .tup (rs.take a ++ ot :: rs.drop (a + 1)), .tup (rs ++ [ot]), .tup [.tup rs], v0, .lst [v0]], Th v := by
    intro v hv
    simp only [List.mem_cons, List.not_mem_nil, or_false] at hv
    rcases hv with rfl | rfl | rfl | rfl | rfl | rfl | rfl | rfl | rfl | rfl | rfl | rfl | rfl
    · exact tup_th hr (by omega)
    · exact lst_th hr (by omega)
    · exact tup_th (sub fun x hx => .inl (List.mem_reverse.mp hx)) (by simp; omega)
    · exact tup_th (sub fun x hx => .inl (List.mem_of_mem_tail hx)) (by simp; omega)
    · exact tup_th (sub fun x hx => .inl (by simpa using hx)) (by simp; omega)
    · refine tup_th (sub fun x hx => .inl ?_) (by simp; omega)
      rcases List.mem_append.mp hx with h | h
      · exact List.mem_of_mem_take h
      · exact List.mem_of_mem_drop h
    · exact tup_th (fun x hx => by simp at hx) (by simp)
    · exact Fit.non.le (by omega) (by omega)
    · refine tup_th (sub fun x hx => ?_) (by simp; omega)
      rcases List.mem_append.mp hx with h | h
      · exact .inl (List.mem_of_mem_take h)
      · rcases List.mem_cons.mp h with h | h
        · exact .inr h
        · exact .inl (List.mem_of_mem_drop h)
    · refine tup_th (sub fun x hx => ?_) (by simp; omega)
      rcases List.mem_append.mp hx with h | h
      · exact .inl h
      · exact .inr (List.mem_singleton.mp h)
    · refine (Fit.tup (d := 7) (w := 1700000) fun x hx => ?_).le (by omega) (by simp)
      rw [List.mem_singleton.mp hx]
      exact (Fit.tup hr).le (by omega) (by omega)
    · exact f0.le (by omega) (by omega)
    · exact lst_th (fun x hx => by rw [List.mem_singleton.mp hx]; exact f0) (by simp)
  obtain ⟨vs', y9, s6, e6, hv', hl', p6⟩ := bents (k := k) hr hlen p5 (by omega) hv (by simp) (x0 := x0) (x1 := x1) (x3 := some (.val x)) (x4 := some (.val (.int (1 + d)))) (x6 := some (.val (.int a))) (x7 := some (.val ot)) (x9 := x9) (x10 := none) (x11 := x11)
  have e7 := rights (k := k + 4) (s := s6) hv' (by omega) (x0 := x0) (x1 := x1) (x2 := some (.val (.loc i))) (x3 := some (.val x)) (x4 := some (.val (.int (1 + d)))) (x5 := some (.val (.tup rs))) (x6 := some (.val (.int a))) (x7 := some (.val ot)) (x9 := y9) (x10 := none) (x11 := x11)
  have := lapV (F := callN T (k + 12)) (x3 := x3) (x4 := x4) (x5 := x5) (x6 := x6) (x7 := x7) (x8 := x8) rfl (by omega) hlen h0 e1 e2 e3 e4 e5 rfl e6 e7
  exact ⟨_, s6, this, rfl, p6.le (by omega)⟩
theorem turnO {k : Nat} {s : Sto} {ns : List Int} {x1 x2 x3 x4 x5 x6 x7 x8 x9 x10 x11 : Option Slot} {j : Nat} :
    ∃ ys s', turnB (callN T (k + 12)) [1] d37_b6 (.int j) [some (.val (.fz ns)), x1, x2, x3, x4, x5, x6, x7, x8, x9, x10, x11] s = .ok .next (some (.val (.fz ns)) :: ys) s' ∧ ys.length = 11 := by
  obtain ⟨z, s1, e1, e2, p, l1⟩ := cell_pen (k := k + 11) (s := s) (ns := ns) (j := j) t20 t21
  generalize hi : s.length = i at *
  have loop : ∃ (ys : List (Option Slot)) (s' : Sto), exS (callN T (k + 12)) d37_f4 [some (.val (.fz ns)), some (.val (.int j)), some (.val (.loc i)), x3, x4, x5, x6, x7, x8, x9, x10, x11] s1 = .ok .next (some (.val (.fz ns)) :: some (.val (.int j)) :: some (.val (.loc i)) :: ys) s' ∧ ys.length = 9 := by
    unfold d37_f4
    rw [ex_for, rng_list (by decide) (by decide), bind_ok]
    obtain ⟨r', s', e, ys, rfl, hl, p2⟩ := for_ok (f := turnB (callN T (k + 12)) [3] d37_b4)
      (fun m r s' => ∃ ys : List (Option Slot), r = some (.val (.fz ns)) :: some (.val (.int j)) :: some (.val (.loc i)) :: ys ∧ ys.length = 9 ∧ Pen s' i (20000 * m)) (xs := (rngI 0 3).map Val.int) (s := s1) ⟨[x3, x4, x5, x6, x7, x8, x9, x10, x11], rfl, rfl, by simpa using p⟩ (fun m x r s2 hx hI => by
        obtain ⟨ys, rfl, hl, p2⟩ := hI
        have hm : m < 3 := by have := lt_of_get hx; rw [rngLen] at this; exact this
        match ys, hl with
        | [y3, y4, y5, y6, y7, y8, y9, y10, y11], _ =>
          obtain ⟨zs, s3, e, hz, p3⟩ := lap (k := k) (x := x) (x0 := some (.val (.fz ns))) (x1 := some (.val (.int j))) (x3 := y3) (x4 := y4) (x5 := y5) (x6 := y6) (x7 := y7) (x8 := y8) (x9 := y9) (x10 := y10) (x11 := y11) p2 (by omega)
          exact ⟨_, s3, e, zs, rfl, hz, p3.le (by omega)⟩)
    exact ⟨ys, s', e, hl⟩
  obtain ⟨ys, s2, e3, hl⟩ := loop
  refine ⟨_, s2, ?_, (by simp [hl] : (some (Slot.val (.int j)) :: some (Slot.val (.loc i)) :: ys).length = 11)⟩
  simp -implicitDefEqProofs [turnB, d37_b6, e1, e2, e3]
theorem law_ok {k : Nat} {ns : List Int} : Says (callN T (k + 13)) 37 ns := by
  have e1 := made (k := k + 2) (s := [])
  obtain ⟨r', s', e2, _⟩ := outerG (F := callN T (k + 12)) (c := 1) (C := 4) (ns := ns) (b := d37_b6) (m := 11) (by decide) (by decide) (fun j xs s hx => match xs, hx with
    | [x1, x2, x3, x4, x5, x6, x7, x8, x9, x10, x11], _ => turnO) [] (xs := [none, none, none, none, none, none, none, none, none, none, none]) rfl
  change exS _ d37_f6 _ _ = _ at e2
  refine ⟨s', ?_⟩
  rw [callN_eq t37]
  simp -implicitDefEqProofs [runD, d37, e1, e2]
def lev : Nat := 12
theorem says : ∀ ns : List Int, ns.length ≤ 63 → (∀ z ∈ ns, Builtin.Int.intBits z ≤ 1048576) → Says (callN T (lev + 1)) 37 ns := fun ns _ _ => law_ok (k := 0)
end K13
open PySem PySem.W PyProof.Rows
set_option maxHeartbeats 0 in
theorem PySem.Challenge.cw_goesout_k13_families_made_and_known_holds : PySem.Challenge.rw_goesout_k13_families_made_and_known.Holds := by
  w_on; o_law; k_head; (case hw => w_witness2)
  k_fill
  refine Gz.walkG (l := PySem.Challenge.rw_goesout_k13_families_made_and_known) (m := 63) (k := K13.lev) (n := 60) (P := K13.P) (T := K13.T) (f := 37) rfl (by decide) rfl ⟨rfl, by decide, by decide⟩ (by decide +kernel) (fun w h Y => PySem.W.kIn_of Y) rfl (fun e he => by cases he; rfl) ?F K13.says
  case F =>
    intro w mg h KX G
    refine' K13.all_mk KX G ?a0 ?l0 ?c0 ?k0 ?a1 ?l1 ?c1 ?k1 ?a2 ?l2 ?c2 ?k2 ?a3 ?l3 ?c3 ?k3 ?a4 ?l4 ?c4 ?k4 ?a5 ?l5 ?c5 ?k5 ?a6 ?l6 ?c6 ?k6 ?a7 ?l7 ?c7 ?k7 ?a8 ?l8 ?c8 ?k8 ?a9 ?l9 ?c9 ?k9 ?a10 ?l10 ?c10 ?k10 ?a11 ?l11 ?c11 ?k11 ?a12 ?l12 ?c12 ?k12 ?a13 ?l13 ?c13 ?k13 ?a14 ?l14 ?c14 ?k14 ?a15 ?l15 ?c15 ?k15 ?a16 ?l16 ?c16 ?k16 ?a17 ?l17 ?c17 ?k17 ?a18 ?l18 ?c18 ?k18 ?a19 ?l19 ?c19 ?k19 ?a20 ?l20 ?c20 ?k20 ?a21 ?l21 ?c21 ?k21 ?a22 ?l22 ?c22 ?k22 ?a23 ?l23 ?c23 ?k23 ?a24 ?l24 ?c24 ?k24 ?a25 ?l25 ?c25 ?k25 ?a26 ?l26 ?c26 ?k26 ?a27 ?l27 ?c27 ?k27 ?a28 ?l28 ?c28 ?k28 ?a29 ?l29 ?c29 ?k29 ?a30 ?l30 ?c30 ?k30 ?a31 ?l31 ?c31 ?k31 ?a32 ?l32 ?c32 ?k32 ?a33 ?l33 ?c33 ?k33 ?a34 ?l34 ?c34 ?k34 ?a35 ?l35 ?c35 ?k35 ?a36 ?l36 ?c36 ?k36 ?a37 ?l37 ?c37 ?k37 ?m0 ?n0 ?m1 ?n1 ?m2 ?n2 ?u2 ?z0 ?z1 ?z2 ?z3 ?z4 ?z5 ?z6 ?z7 ?z8 ?z9 ?z10 ?z11 ?z12 ?z13
    (case a0 => k_is); (case l0 => k_is); (case c0 => k_is); (case k0 => k_is); (case a1 => k_is); (case l1 => k_is); (case c1 => k_is); (case k1 => k_is); (case a2 => k_is); (case l2 => k_is); (case c2 => k_is); (case k2 => k_is); (case a3 => k_is); (case l3 => k_is); (case c3 => k_is); (case k3 => k_is); (case a4 => k_is); (case l4 => k_is); (case c4 => k_is); (case k4 => k_is); (case a5 => k_is); (case l5 => k_is); (case c5 => k_is); (case k5 => k_is); (case a6 => k_is); (case l6 => k_is); (case c6 => k_is); (case k6 => k_is); (case a7 => k_is); (case l7 => k_is); (case c7 => k_is); (case k7 => k_is); (case a8 => k_is); (case l8 => k_is); (case c8 => k_is); (case k8 => k_is); (case a9 => k_is); (case l9 => k_is); (case c9 => k_is); (case k9 => k_is); (case a10 => k_is); (case l10 => k_is); (case c10 => k_is); (case k10 => k_is); (case a11 => k_is); (case l11 => k_is); (case c11 => k_is); (case k11 => k_is); (case a12 => k_is); (case l12 => k_is); (case c12 => k_is); (case k12 => k_is); (case a13 => k_is); (case l13 => k_is); (case c13 => k_is); (case k13 => k_is); (case a14 => k_is); (case l14 => k_is); (case c14 => k_is); (case k14 => k_is); (case a15 => k_is); (case l15 => k_is); (case c15 => k_is); (case k15 => k_is); (case a16 => k_is); (case l16 => k_is); (case c16 => k_is); (case k16 => k_is); (case a17 => k_is); (case l17 => k_is); (case c17 => k_is); (case k17 => k_is); (case a18 => k_is); (case l18 => k_is); (case c18 => k_is); (case k18 => k_is); (case a19 => k_is); (case l19 => k_is); (case c19 => k_is); (case k19 => k_is); (case a20 => k_is); (case l20 => k_is); (case c20 => k_is); (case k20 => k_is); (case a21 => k_is); (case l21 => k_is); (case c21 => k_is); (case k21 => k_is); (case a22 => k_is); (case l22 => k_is); (case c22 => k_is); (case k22 => k_is); (case a23 => k_is); (case l23 => k_is); (case c23 => k_is); (case k23 => k_is); (case a24 => k_is); (case l24 => k_is); (case c24 => k_is); (case k24 => k_is); (case a25 => k_is); (case l25 => k_is); (case c25 => k_is); (case k25 => k_is); (case a26 => k_is); (case l26 => k_is); (case c26 => k_is); (case k26 => k_is); (case a27 => k_is); (case l27 => k_is); (case c27 => k_is); (case k27 => k_is); (case a28 => k_is); (case l28 => k_is); (case c28 => k_is); (case k28 => k_is); (case a29 => k_is); (case l29 => k_is); (case c29 => k_is); (case k29 => k_is); (case a30 => k_is); (case l30 => k_is); (case c30 => k_is); (case k30 => k_is); (case a31 => k_is); (case l31 => k_is); (case c31 => k_is); (case k31 => k_is); (case a32 => k_is); (case l32 => k_is); (case c32 => k_is); (case k32 => k_is); (case a33 => k_is); (case l33 => k_is); (case c33 => k_is); (case k33 => k_is); (case a34 => k_is); (case l34 => k_is); (case c34 => k_is); (case k34 => k_is); (case a35 => k_is); (case l35 => k_is); (case c35 => k_is); (case k35 => k_is); (case a36 => k_is); (case l36 => k_is); (case c36 => k_is); (case k36 => k_is); (case a37 => k_is); (case l37 => k_is); (case c37 => k_is); (case k37 => k_is); (case m0 => k_is); (case n0 => exact rfl); (case m1 => k_is); (case n1 => exact rfl); (case m2 => k_is); (case n2 => exact rfl); (case u2 => k_is); (case z0 => k_is); (case z1 => k_is); (case z2 => k_is); (case z3 => k_is); (case z4 => k_is); (case z5 => k_is); (case z6 => k_is); (case z7 => k_is); (case z8 => k_is); (case z9 => k_is); (case z10 => k_is); (case z11 => k_is); (case z12 => k_is); (case z13 => k_is)
