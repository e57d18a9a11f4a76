/- Part 0 of the proof: an abstract machine for the loaded code, and what the functions compute. No conditions. -/
import Derived.Laws.AppendOwn
import Derived.Orders
import Derived.IntWalk
import Derived.Laws.Slices
import Derived.Laws.StructEq
import Derived.Laws.MakeOwn
import Derived.RowKit3
import Derived.Laws.Strings
import Derived.Laws.Tables
set_option linter.unusedVariables false
set_option linter.unusedSimpArgs false
/- The abstract machine: values, code, and the predicate transformer awp over it. No word of the given program. -/
namespace Go.Proofs.Ytnldohnfdeineaa.Abs
open Go

/-- May a slice's spare room be written? no: not known; cap0: it has none; own id: as long as the heap's object id is 'tok'. -/
inductive Tok where
  | no | cap0 | own (id : Nat)
  deriving DecidableEq

/-- Abstract values. sl t e xs: a slice that nobody stores into (e cells an element); arr: a slice of the heap's object id; loc, el: addresses of a local box, of an element of an sl. -/
inductive AV where
  | int (k : IntKind) (n : Int)
  | bool (b : Bool)
  | str (s : List Nat)
  | sl (t : Tok) (e : Nat) (xs : List AV)
  | arr (id e off len : Nat)
  | ptr (id off : Nat)
  | nilp
  | agg (cs : List AV)
  | tup (vs : List AV)
  | loc (s off : Nat)
  | el (cs : List AV) (off : Nat)
  | fn (f : FuncId) (caps : List AV)
  | undef

def AV.cells : AV → List AV
  | .agg cs => cs
  | v => [v]

/-- May it stand in memory, or be handed on? -/
def AV.mem : AV → Bool
  | .loc .. | .el .. | .tup _ | .undef => false
  | _ => true
/-- One cell of memory. -/
def AV.one : AV → Bool
  | .loc .. | .el .. | .tup _ | .undef | .agg _ => false
  | _ => true

inductive AO where
  | dead
  | tok
  | cells (xs : List AV)

structure St where
  tm : List (Nat × AV)
  lo : List (Nat × List AV)
  hp : List AO

def sel {α : Type} : Bool → α → α → α
  | true, x, _ => x
  | false, _, y => y
def fnd {α : Type} (d : α) : List (Nat × α) → Nat → α
  | [], _ => d
  | (k, v) :: l, t => sel (k == t) v (fnd d l t)
def ins {α : Type} (k : Nat) (v : α) : List (Nat × α) → List (Nat × α)
  | [] => [(k, v)]
  | (j, u) :: l => sel (decide (k < j)) ((k, v) :: (j, u) :: l) (sel (k == j) ((k, v) :: l) ((j, u) :: ins k v l))
def hasN : List Nat → Nat → Bool
  | [], _ => false
  | x :: l, k => sel (k == x) true (hasN l k)
def keep {α : Type} (ks : List Nat) : List (Nat × α) → List (Nat × α)
  | [] => []
  | (k, v) :: l => sel (hasN ks k) ((k, v) :: keep ks l) (keep ks l)
def notLoc (d : Nat) : AV → Bool
  | .loc s _ => !(s == d)
  | _ => true
/-- No address of local box d is held. -/
def noLocs (d : Nat) : List (Nat × AV) → Bool
  | [] => true
  | (_, v) :: l => notLoc d v && noLocs d l
/-- No address of a local box comes out of memory. -/
def nl : AV → Option AV
  | .loc .. => none
  | v => some v

inductive AR where
  | t (n : Nat)
  | c (v : AV)

def AR.ev (tm : List (Nat × AV)) : AR → AV
  | .t n => fnd .undef tm n
  | .c v => v

def hcells (hp : List AO) (id : Nat) : Option (List AV) := match hp[id]? with
  | some (.cells cs) => some cs
  | _ => none
def htok (hp : List AO) (id : Nat) : Bool := match hp[id]? with
  | some .tok => true
  | _ => false

inductive AOp where
  | mv (x : AR)
  | pick (c a b : AR)
  | alloc (zero : List AV)
  | box (x : AR)
  | allocH (zero : List AV)
  | boxH (x : AR)
  | build (zero : List AV) (parts : List (Nat × Nat × AR))
  | mkSl (e : Nat) (parts : List AR)
  | load (n : Nat) (ag : Bool) (a : AR)
  | loadS (s : Option Nat) (n : Nat) (ag : Bool) (a : AR)
  | store (n : Nat) (a x : AR)
  | storeL (s : Nat) (n : Nat) (a x : AR)
  | fadd (d : Nat) (a : AR)
  | ixa (e : Nat) (x i : AR)
  | ixs (x i : AR)
  | bin (op : BinOp) (x y : AR)
  | beq (pr ne : Bool) (x y : AR)
  | un (op : UnOp) (x : AR)
  | conv (k : IntKind) (x : AR)
  | len (str : Bool) (x : AR)
  | app (mu : Bool) (e : Nat) (s x : AR)
  | cp (e : Nat) (x y : AR)
  | slstr (x : AR) (lo hi : Option AR)
  | slsl (e : Nat) (x : AR) (lo hi : Option AR)
  | mkArr (zero : List AV) (n : AR)
  | ext (x : AR) (i : Nat)
  | call (f : FuncId) (args : List AR)
  | callV (f : AR) (args : List AR)
  | mkFn (f : FuncId) (caps : List AR)
  | nilck (x : AR)
  | bad

structure AOper where
  dst : Option Nat
  op : AOp
  guard : Option (Nat × Bool) := none

/-- In which order a region's operations are looked at, where it draws the order. -/
inductive Sch where
  | nil
  | op (i : Nat) (r : Sch)
  | alt (i : Nat) (r e : Sch)

inductive ACode where
  | skip
  | reg (live : List Nat) (ops : List AOper)
  | any (live : List Nat) (ops : List AOper) (sch : Sch)
  | seq (a b : ACode)
  | cond (c : AR) (thn els : ACode)
  | keep (live : List Nat) (body : ACode)
  | block (id : Nat) (body : ACode)
  | loop (live : List Nat) (body : ACode)
  | exit (id : Nat)
  | ret
  | dead

def nth : List AV → Nat → Option AV
  | [], _ => none
  | x :: _, 0 => some x
  | _ :: l, n + 1 => nth l n
/-- n cells from place o on. -/
def sub : Nat → Nat → List AV → Option (List AV)
  | 0, 0, _ => some []
  | 0, n + 1, x :: l => (sub 0 n l).map (x :: ·)
  | o + 1, n, _ :: l => sub o n l
  | _, _, [] => none
/-- Cells written from place o on. -/
def upd : Nat → List AV → List AV → Option (List AV)
  | 0, [], cs => some cs
  | 0, v :: vs, _ :: cs => (upd 0 vs cs).map (v :: ·)
  | o + 1, vs, c :: cs => (upd o vs cs).map (c :: ·)
  | _, _, [] => none
def ld (n : Nat) (ag : Bool) (cs : List AV) (o : Nat) : Option AV :=
  match ag with
  | true => (sub o n cs).map .agg
  | false => (nth cs o).bind nl

/-- Shifts: the count may be of another kind. -/
def shBin (op : BinOp) (k : IntKind) (a b : Int) : Option AV :=
  match op with
  | .shl => if b < 0 then none else some (.int k (k.wrap (a * 2 ^ min b.toNat k.bits)))
  | .shr => if b < 0 then none else some (.int k (a.fdiv (2 ^ min b.toNat k.bits)))
  | _ => none
def bitA (k : IntKind) (a b : Int) : Int := k.wrap (BitVec.ofInt k.bits a &&& BitVec.ofInt k.bits b).toNat
def bitO (k : IntKind) (a b : Int) : Int := k.wrap (BitVec.ofInt k.bits a ||| BitVec.ofInt k.bits b).toNat
def intBin (op : BinOp) (k : IntKind) (a b : Int) : Option AV :=
  match op with
  | .and => some (.int k (bitA k a b))
  | .or => some (.int k (bitO k a b))
  | .shl => shBin .shl k a b
  | .shr => shBin .shr k a b
  | .add => some (.int k (k.wrap (a + b)))
  | .sub => some (.int k (k.wrap (a - b)))
  | .mul => some (.int k (k.wrap (a * b)))
  | .rem => if b = 0 then none else some (.int k (a.tmod b))
  | .quo => if b = 0 then none else some (.int k (k.wrap (a.tdiv b)))
  | .eql => some (.bool (decide (a = b)))
  | .neq => some (.bool (decide (a ≠ b)))
  | .lss => some (.bool (decide (a < b)))
  | .leq => some (.bool (decide (a ≤ b)))
  | .gtr => some (.bool (decide (b < a)))
  | .geq => some (.bool (decide (b ≤ a)))
  | _ => none

def strBin (op : BinOp) (a b : List Nat) : Option AV :=
  match op with
  | .add => if a.length + b.length ≤ 4294967296 then some (.str (a ++ b)) else none
  | .eql => some (.bool (decide (a = b)))
  | .neq => some (.bool (decide (a ≠ b)))
  | _ => none

def abin (op : BinOp) : AV → AV → Option AV
  | .int k a, .int k' b => if k = k' then intBin op k a b else shBin op k a b
  | .str a, .str b => strBin op a b
  | _, _ => none
def beqV (ne : Bool) : AV → AV → Option AV
  | .bool a, .bool b => some (.bool (ne != (a == b)))
  | _, _ => none

/-- Two pairs of numbers, cell by cell. -/
def beqP (ne : Bool) : AV → AV → Option AV
  | .agg [.int .i64 a, .int .i64 b], .agg [.int .i64 c, .int .i64 d] => some (.bool (ne != (a == c && b == d)))
  | _, _ => none
def beqW (pr ne : Bool) (v u : AV) : Option AV := match pr with
  | true => beqP ne v u
  | false => beqV ne v u
theorem beqP_res {ne : Bool} {v u r : AV} (h : beqP ne v u = some r) : ∃ b, r = .bool b := by
  unfold beqP at h
  split at h
  · cases h; exact ⟨_, rfl⟩
  · cases h

def aun (op : UnOp) : AV → Option AV
  | .bool b => match op with
    | .not => some (.bool (!b))
    | _ => none
  | .int k n => match op with
    | .neg => some (.int k (k.wrap (0 - n)))
    | _ => none
  | _ => none

/-- A bound of a slice expression. -/
def bnd (tm : List (Nat × AV)) (d : Nat) : Option AR → Option Nat
  | none => some d
  | some x => match x.ev tm with
    | .int _ n => if 0 ≤ n then some n.toNat else none
    | _ => none

/-- A value of n cells that may stand in memory. -/
def okv (n : Nat) (v : AV) : Bool := v.mem && v.cells.length == n
def ifc (b : Bool) (x : Option (List AV)) : Option (List AV) := match b with
  | true => x
  | false => none
/-- Parts laid over cells. -/
def lay (tm : List (Nat × AV)) (cs : List AV) : List (Nat × Nat × AR) → Option (List AV)
  | [] => some cs
  | (o, n, x) :: r => (ifc (okv n (x.ev tm)) (upd o (x.ev tm).cells cs)).bind fun cs => lay tm cs r

def pickV : AV → AV → AV → Option AV
  | .bool t, a, b => some (if t = true then a else b)
  | _, _, _ => none
def loadV (lo : List (Nat × List AV)) (hp : List AO) (n : Nat) (ag : Bool) : AV → Option AV
  | .loc s o => ld n ag (fnd [] lo s) o
  | .el cs o => ld n ag cs o
  | .ptr id o => (hcells hp id).bind fun cs => ld n ag cs o
  | _ => none
/-- A load out of local box s, or (none) of an element. -/
def loadSV (lo : List (Nat × List AV)) (s : Option Nat) (n : Nat) (ag : Bool) : AV → Option AV
  | .loc s' o => match s with
    | some k => sel (k == s') (ld n ag (fnd [] lo s') o) none
    | none => none
  | .el cs o => match s with
    | some _ => none
    | none => ld n ag cs o
  | _ => none
def faddV (d : Nat) : AV → Option AV
  | .loc s o => some (.loc s (o + d))
  | .el cs o => some (.el cs (o + d))
  | .ptr id o => some (.ptr id (o + d))
  | _ => none
def ixaV (e : Nat) : AV → AV → Option AV
  | .sl _ e' xs, .int _ n => if e = e' ∧ 0 ≤ n then (xs[n.toNat]?).map fun x => .el x.cells 0 else none
  | .arr id e' off len, .int _ n => if e = e' ∧ 0 ≤ n ∧ n.toNat < len then some (.ptr id (off + n.toNat * e)) else none
  | _, _ => none
def ixsV : AV → AV → Option AV
  | .str s, .int _ n => if 0 ≤ n then (s[n.toNat]?).map fun (c : Nat) => .int .u8 (c : Int) else none
  | _, _ => none
def convV (k : IntKind) : AV → Option AV
  | .int _ n => some (.int k (k.wrap n))
  | _ => none
def lenV : Bool → AV → Option AV
  | true, .str s => some (.int .i64 s.length)
  | false, .sl _ _ xs => some (.int .i64 xs.length)
  | false, .arr _ _ _ n => some (.int .i64 n)
  | _, _ => none
def slstrV : AV → Option Nat → Option Nat → Option AV
  | .str s, some l, some h => if l ≤ h ∧ h ≤ s.length then some (.str ((s.take h).drop l)) else none
  | _, _, _ => none
def slslV (e : Nat) (whole : Bool) : AV → Option Nat → Option Nat → Option AV
  | .sl t e' xs, some l, some h => if e = e' ∧ l ≤ h ∧ h ≤ xs.length then some (.sl (if whole = true then t else .no) e ((xs.take h).drop l)) else none
  | .arr id e' off n, some l, some h => if e = e' ∧ l ≤ h ∧ h ≤ n ∧ (l = 0 ∨ l < n) then some (.arr id e (off + l * e) (h - l)) else none
  | _, _, _ => none
def extV (i : Nat) : AV → Option AV
  | .tup vs => (nth vs i).bind nl
  | _ => none
def nilckV : AV → Option AV
  | .ptr id o => some (.ptr id o)
  | .loc s o => some (.loc s o)
  | .el cs o => some (.el cs o)
  | _ => none
def mkSlV (e : Nat) (vs : List AV) : Option AV := if vs.all (okv e) = true then some (.sl .no e vs) else none
def mkFnV (f : FuncId) (vs : List AV) : Option AV := if vs.all AV.mem = true then some (.fn f vs) else none
/-- A length, as a slice's bound has it. -/
def lenN : AV → Nat
  | .str s => s.length
  | .sl _ _ xs => xs.length
  | .arr _ _ _ n => n
  | _ => 0

/-- What an operation yields that writes nothing. -/
def pv (tm : List (Nat × AV)) (lo : List (Nat × List AV)) (hp : List AO) : AOp → Option AV
  | .mv x => some (x.ev tm)
  | .pick c a b => pickV (c.ev tm) (a.ev tm) (b.ev tm)
  | .build z ps => (lay tm z ps).map .agg
  | .mkSl e [] => some (.sl .cap0 e [])
  | .mkSl e (p :: ps) => mkSlV e ((p :: ps).map (·.ev tm))
  | .load n ag a => loadV lo hp n ag (a.ev tm)
  | .loadS s n ag a => loadSV lo s n ag (a.ev tm)
  | .fadd d a => faddV d (a.ev tm)
  | .ixa e x i => ixaV e (x.ev tm) (i.ev tm)
  | .ixs x i => ixsV (x.ev tm) (i.ev tm)
  | .bin op x y => abin op (x.ev tm) (y.ev tm)
  | .beq pr ne x y => beqW pr ne (x.ev tm) (y.ev tm)
  | .un op x => aun op (x.ev tm)
  | .conv k x => convV k (x.ev tm)
  | .len b x => lenV b (x.ev tm)
  | .slstr x lo hi => slstrV (x.ev tm) (bnd tm 0 lo) (bnd tm (lenN (x.ev tm)) hi)
  | .slsl e x lo hi => slslV e hi.isNone (x.ev tm) (bnd tm 0 lo) (bnd tm (lenN (x.ev tm)) hi)
  | .ext x i => extV i (x.ev tm)
  | .mkFn f caps => mkFnV f (caps.map (·.ev tm))
  | .nilck x => nilckV (x.ev tm)
  | _ => none

inductive ARes where
  | ret (v : AV)
  | pan (v : AV)

abbrev CallRel := FuncId → List AV → List AO → (ARes → List AO → Prop) → Prop

def putT (tm : List (Nat × AV)) (d : Option Nat) (v : AV) : List (Nat × AV) :=
  match d with
  | some d => ins d v tm
  | none => tm
def St.put (st : St) (d : Option Nat) (v : AV) : St := ⟨putT st.tm d v, st.lo, st.hp⟩

/-- An append's outcome: the value, the heap. -/
def apx (mu : Bool) (e : Nat) (hp : List AO) : AV → AV → Option (AV × List AO)
  | s, .sl _ _ [] => match s with
    | .sl .. | .arr .. => some (s, hp)
    | _ => none
  | .sl (.own id) e2 xs, .sl _ e' (y :: ys) => if mu = false ∧ e' = e ∧ e2 = e ∧ htok hp id = true ∧ xs.length + (y :: ys).length ≤ 4294967296 then some (.sl (.own hp.length) e (xs ++ y :: ys), hp.set id .dead ++ [.tok]) else none
  | .sl .cap0 _ _, .sl _ e' (y :: ys) => if e' = e ∧ (y :: ys).length ≤ 4294967296 then
      (if mu = true then some (.arr hp.length e 0 (y :: ys).length, hp ++ [.cells ((y :: ys).flatMap AV.cells)]) else some (.sl (.own hp.length) e (y :: ys), hp ++ [.tok])) else none
  | .arr id e2 off n, .sl _ e' (y :: ys) => match hcells hp id with
    | some cs => if mu = true ∧ e' = e ∧ e2 = e ∧ off = 0 ∧ cs.length = n * e ∧ n + (y :: ys).length ≤ 4294967296 then some (.arr hp.length e 0 (n + (y :: ys).length), hp.set id .dead ++ [.cells (cs ++ (y :: ys).flatMap AV.cells)]) else none
    | none => none
  | _, _ => none

/-- How many elements a slice has, its cells. -/
def srcC (hp : List AO) (e : Nat) : AV → Option (Nat × List AV)
  | .sl _ e' xs => if e' = e then some (xs.length, xs.flatMap AV.cells) else none
  | .arr id e' off n => if e' = e then (hcells hp id).bind fun cs => (sub off (n * e) cs).map fun l => (n, l) else none
  | _ => none
/-- A copy's outcome: how many, the heap. -/
def cpx (e : Nat) (hp : List AO) (y : AV) : AV → Option (AV × List AO)
  | .arr id e' off n => if e' = e then (srcC hp e y).bind fun p => (hcells hp id).bind fun cs => (upd off (p.2.take (min p.1 n * e)) cs).map fun cs' => (.int .i64 (min p.1 n : Nat), hp.set id (.cells cs')) else none
  | _ => none
def storeL (st : St) (s : Nat) : Bool → Option (List AV) → Option St
  | true, some cs => some ⟨st.tm, ins s cs st.lo, st.hp⟩
  | _, _ => none
def storeP (st : St) (id : Nat) : Bool → Option (List AV) → Option St
  | true, some cs => some ⟨st.tm, st.lo, st.hp.set id (.cells cs)⟩
  | _, _ => none
def storeV (st : St) (n : Nat) (v : AV) : AV → Option St
  | .loc s o => storeL st s (okv n v) (upd o v.cells (fnd [] st.lo s))
  | .ptr id o => storeP st id (okv n v) ((hcells st.hp id).bind (upd o v.cells))
  | _ => none
def storeSV (st : St) (s : Nat) (n : Nat) (v : AV) : AV → Option St
  | .loc s' o => sel (s == s') (storeL st s' (okv n v) (upd o v.cells (fnd [] st.lo s'))) none
  | _ => none
def mkArrV (st : St) (d : Option Nat) (z : List AV) : AV → Option St
  | .int _ n => if 0 ≤ n ∧ n ≤ 4294967296 then some ⟨putT st.tm d (.arr st.hp.length z.length 0 n.toNat), st.lo, st.hp ++ [.cells ((List.replicate n.toNat z).flatten)]⟩ else none
  | _ => none
def boxLd (st : St) (d : Nat) (cs : List AV) : Bool → Option St
  | true => some ⟨ins d (.loc d 0) st.tm, ins d cs st.lo, st.hp⟩
  | false => none
def boxL (st : St) (d : Option Nat) (cs : List AV) : Option St := d.bind fun d => boxLd st d cs (noLocs d st.tm)
def boxHp (st : St) (d : Option Nat) (cs : List AV) : St := ⟨putT st.tm d (.ptr st.hp.length 0), st.lo, st.hp ++ [.cells cs]⟩
def ifv {α : Type} (b : Bool) (x : Option α) : Option α := match b with
  | true => x
  | false => none

/-- An operation that is no call. -/
def stepF (d : Option Nat) (st : St) : AOp → Option St
  | .alloc z => boxL st d z
  | .box x => ifv (x.ev st.tm).mem (boxL st d (x.ev st.tm).cells)
  | .allocH z => some (boxHp st d z)
  | .boxH x => ifv (x.ev st.tm).mem (some (boxHp st d (x.ev st.tm).cells))
  | .store n a x => storeV st n (x.ev st.tm) (a.ev st.tm)
  | .storeL s n a x => storeSV st s n (x.ev st.tm) (a.ev st.tm)
  | .app m e s x => (apx m e st.hp (s.ev st.tm) (x.ev st.tm)).map fun r => ⟨putT st.tm d r.1, st.lo, r.2⟩
  | .cp e x y => (cpx e st.hp (y.ev st.tm) (x.ev st.tm)).map fun r => ⟨putT st.tm d r.1, st.lo, r.2⟩
  | .mkArr z n => mkArrV st d z (n.ev st.tm)
  | op => (pv st.tm st.lo st.hp op).map (st.put d)

abbrev Cont := St → Prop
def bindT (x : Option St) (K : Cont) : Prop := match x with
  | some st => K st
  | none => False
/-- Behind a call. -/
def retK (d : Option Nat) (st : St) (K : Cont) (Kp : AV → List AO → Prop) : ARes → List AO → Prop
  | .ret v, hp => K ⟨putT st.tm d v, st.lo, hp⟩
  | .pan v, hp => Kp v hp
def callK (C : CallRel) (f : FuncId) (args : List AV) (hp : List AO) (Q : ARes → List AO → Prop) : Prop := args.all AV.mem = true ∧ C f args hp Q
def callVK (C : CallRel) (args : List AV) (hp : List AO) (Q : ARes → List AO → Prop) : AV → Prop
  | .fn f caps => callK C f (args ++ caps) hp Q
  | _ => False

def astep (C : CallRel) (d : Option Nat) (K : Cont) (Kp : AV → List AO → Prop) (st : St) : AOp → Prop
  | .call f args => callK C f (args.map (·.ev st.tm)) st.hp (retK d st K Kp)
  | .callV f args => callVK C (args.map (·.ev st.tm)) st.hp (retK d st K Kp) (f.ev st.tm)
  | op => bindT (stepF d st op) K

def isB (w : Bool) : AV → Option Bool
  | .bool b => some (b == w)
  | .tup [] => some false
  | _ => none
def guardK (x : Option Bool) (p q : Cont) (st : St) : Prop := match x with
  | some true => p st
  | some false => q st
  | none => False
def skipK (d : Option Nat) (K : Cont) : Cont := fun st => K (st.put d (.tup []))
def astepK (C : CallRel) (d : Option Nat) (op : AOp) (K : Cont) (Kp : AV → List AO → Prop) : Cont := fun st => astep C d K Kp st op

def awpOps (C : CallRel) : List AOper → Cont → (AV → List AO → Prop) → Cont
  | [], K, _, st => K st
  | ⟨d, op, none⟩ :: r, K, Kp, st => astep C d (awpOps C r K Kp) Kp st op
  | ⟨d, op, some (g, w)⟩ :: r, K, Kp, st => guardK (isB w (fnd .undef st.tm g)) (astepK C d op (awpOps C r K Kp) Kp) (skipK d (awpOps C r K Kp)) st

inductive AExit where
  | normal
  | exit (id : Nat)
  | ret
  | pan (v : AV)

abbrev APost := AExit → St → Prop
def St.keep (st : St) (l : List Nat) : St := ⟨Abs.keep l st.tm, Abs.keep l st.lo, st.hp⟩
def regK (live : List Nat) (Q : APost) : Cont := fun st => Q .normal (st.keep live)
def panK (Q : APost) : AV → List AO → Prop := fun v hp => Q (.pan v) ⟨[], [], hp⟩
def seqQ (k : Cont) (Q : APost) : APost
  | .normal, st => k st
  | e, st => Q e st
def blockQ (id : Nat) (Q : APost) : APost
  | .exit j, st => if j = id then Q .normal st else Q (.exit j) st
  | e, st => Q e st
def condK (p q : Cont) (st : St) : AV → Prop
  | .bool t => (t = true → p st) ∧ (t = false → q st)
  | _ => False

/-- No local box that the operations make is held already. -/
def locsFree (tm : List (Nat × AV)) : List AOper → Bool
  | [] => true
  | ⟨some d, .alloc _, _⟩ :: r => noLocs d tm && locsFree tm r
  | ⟨some d, .box _, _⟩ :: r => noLocs d tm && locsFree tm r
  | _ :: r => locsFree tm r
def awp1 (C : CallRel) (K : Cont) (Kp : AV → List AO → Prop) (st : St) : Option AOper → Prop
  | none => K st
  | some o => awpOps C [o] K Kp st
def awpS (C : CallRel) (ops : List AOper) (K : Cont) (Kp : AV → List AO → Prop) : Sch → Cont
  | .nil, st => K st
  | .op i r, st => awp1 C (awpS C ops K Kp r) Kp st ops[i]?
  | .alt i r e, st => awp1 C (awpS C ops K Kp r) Kp st ops[i]? ∧ awpS C ops K Kp e st
def awp (C : CallRel) : ACode → APost → Cont
  | .skip, Q, st => Q .normal st
  | .reg live ops, Q, st => awpOps C ops (regK live Q) (panK Q) st
  | .any live ops sch, Q, st => locsFree st.tm ops = true ∧ awpS C ops (regK live Q) (panK Q) sch st
  | .seq a b, Q, st => awp C a (seqQ (awp C b Q) Q) st
  | .cond c a b, Q, st => condK (awp C a Q) (awp C b Q) st (c.ev st.tm)
  | .keep live a, Q, st => awp C a Q (st.keep live)
  | .block id a, Q, st => awp C a (blockQ id Q) st
  | .loop live a, Q, st => ∀ I : Cont, (∀ st, awp C a (seqQ (fun st => I (st.keep live)) Q) st → I st) → I (st.keep live)
  | .exit id, Q, st => Q (.exit id) st
  | .ret, Q, st => Q .ret st
  | .dead, _, _ => False

inductive ARV where
  | tmp (t : Nat)
  | cell (a : Nat) (n : Nat) (ag : Bool)

structure AFunc where
  res : List ARV
  body : ACode

def ARV.ev (st : St) : ARV → Option AV
  | .tmp t => some (fnd .undef st.tm t)
  | .cell a n ag => loadV st.lo st.hp n ag (fnd .undef st.tm a)

def evRes (st : St) : List ARV → Option (List AV)
  | [] => some []
  | r :: rs => (r.ev st).bind fun v => (evRes st rs).map (v :: ·)

def resOf : List AV → AV
  | [v] => v
  | vs => .tup vs

def retQ (Q : ARes → List AO → Prop) (hp : List AO) : Option (List AV) → Prop
  | some vs => vs.all AV.mem = true ∧ Q (.ret (resOf vs)) hp
  | none => False

def resQ (res : List ARV) (Q : ARes → List AO → Prop) : APost
  | .normal, st | .ret, st => retQ Q st.hp (evRes st res)
  | .pan v, st => Q (.pan v) st.hp
  | .exit _, _ => False

def enum : Nat → List AV → List (Nat × AV)
  | _, [] => []
  | n, v :: r => (n, v) :: enum (n + 1) r

/-- The least relation that the bodies (and the contracts that are handed in) shut. -/
def ACalls (T : FuncId → Option AFunc) (Pr : CallRel) : CallRel := fun f args hp Q =>
  ∀ X : CallRel, (∀ f af args hp Q, T f = some af → awp X af.body (resQ af.res Q) ⟨enum 0 args, [], hp⟩ → X f args hp Q) →
    (∀ f args hp Q, Pr f args hp Q → X f args hp Q) → X f args hp Q
end Go.Proofs.Ytnldohnfdeineaa.Abs
/- The abstract machine: rules for its user. -/
namespace Go.Proofs.Ytnldohnfdeineaa.Abs
open Go

abbrev CLe (C C' : CallRel) : Prop := ∀ f args hp (Q Q' : ARes → List AO → Prop), C f args hp Q → (∀ r hp, Q r hp → Q' r hp) → C' f args hp Q'
abbrev CMono (C : CallRel) : Prop := CLe C C

theorem retK_mono {d st} {K K' : Cont} {Kp Kp' : AV → List AO → Prop} (hK : ∀ st, K st → K' st) (hP : ∀ v hp, Kp v hp → Kp' v hp) : ∀ r hp, retK d st K Kp r hp → retK d st K' Kp' r hp
  | .ret _, _, h => hK _ h
  | .pan _, _, h => hP _ _ h
theorem callK_mono {C C' : CallRel} (hC : CLe C C') {f args hp} {Q Q' : ARes → List AO → Prop} (h : callK C f args hp Q) (hq : ∀ r hp, Q r hp → Q' r hp) : callK C' f args hp Q' := ⟨h.1, hC _ _ _ _ _ h.2 hq⟩
theorem callVK_mono {C C' : CallRel} (hC : CLe C C') {args hp} {Q Q' : ARes → List AO → Prop} (hq : ∀ r hp, Q r hp → Q' r hp) : ∀ {v}, callVK C args hp Q v → callVK C' args hp Q' v
  | .fn _ _, h => callK_mono hC h hq
  | .int .., h | .bool .., h | .str .., h | .sl .., h | .arr .., h | .ptr .., h | .nilp, h | .agg .., h | .tup .., h | .loc .., h | .el .., h | .undef, h => h
theorem bindT_mono {x : Option St} {K K' : Cont} (h : bindT x K) (hK : ∀ st, K st → K' st) : bindT x K' := by
  cases x with
  | none => exact h
  | some st => exact hK _ h
theorem astep_mono {C C' : CallRel} (hC : CLe C C') {d} {K K' : Cont} {Kp Kp' : AV → List AO → Prop} {st : St} (hK : ∀ st, K st → K' st) (hP : ∀ v hp, Kp v hp → Kp' v hp) : ∀ {op : AOp}, astep C d K Kp st op → astep C' d K' Kp' st op
  | .call f args, h => callK_mono hC h (retK_mono hK hP)
  | .callV f args, h => callVK_mono hC (retK_mono hK hP) h
  | .mv a0, h => bindT_mono (x := stepF d st (.mv a0)) h hK
  | .pick a0 a1 a2, h => bindT_mono (x := stepF d st (.pick a0 a1 a2)) h hK
  | .alloc a0, h => bindT_mono (x := stepF d st (.alloc a0)) h hK
  | .box a0, h => bindT_mono (x := stepF d st (.box a0)) h hK
  | .allocH a0, h => bindT_mono (x := stepF d st (.allocH a0)) h hK
  | .boxH a0, h => bindT_mono (x := stepF d st (.boxH a0)) h hK
  | .build a0 a1, h => bindT_mono (x := stepF d st (.build a0 a1)) h hK
  | .mkSl a0 a1, h => bindT_mono (x := stepF d st (.mkSl a0 a1)) h hK
  | .load a0 a1 a2, h => bindT_mono (x := stepF d st (.load a0 a1 a2)) h hK
  | .loadS a0 a1 a2 a3, h => bindT_mono (x := stepF d st (.loadS a0 a1 a2 a3)) h hK
  | .storeL a0 a1 a2 a3, h => bindT_mono (x := stepF d st (.storeL a0 a1 a2 a3)) h hK
  | .store a0 a1 a2, h => bindT_mono (x := stepF d st (.store a0 a1 a2)) h hK
  | .fadd a0 a1, h => bindT_mono (x := stepF d st (.fadd a0 a1)) h hK
  | .ixa a0 a1 a2, h => bindT_mono (x := stepF d st (.ixa a0 a1 a2)) h hK
  | .ixs a0 a1, h => bindT_mono (x := stepF d st (.ixs a0 a1)) h hK
  | .bin a0 a1 a2, h => bindT_mono (x := stepF d st (.bin a0 a1 a2)) h hK
  | .beq a0 a1 a2 a3, h => bindT_mono (x := stepF d st (.beq a0 a1 a2 a3)) h hK
  | .un a0 a1, h => bindT_mono (x := stepF d st (.un a0 a1)) h hK
  | .conv a0 a1, h => bindT_mono (x := stepF d st (.conv a0 a1)) h hK
  | .len a0 a1, h => bindT_mono (x := stepF d st (.len a0 a1)) h hK
  | .app a0 a1 a2 a3, h => bindT_mono (x := stepF d st (.app a0 a1 a2 a3)) h hK
  | .cp a0 a1 a2, h => bindT_mono (x := stepF d st (.cp a0 a1 a2)) h hK
  | .slstr a0 a1 a2, h => bindT_mono (x := stepF d st (.slstr a0 a1 a2)) h hK
  | .slsl a0 a1 a2 a3, h => bindT_mono (x := stepF d st (.slsl a0 a1 a2 a3)) h hK
  | .mkArr a0 a1, h => bindT_mono (x := stepF d st (.mkArr a0 a1)) h hK
  | .ext a0 a1, h => bindT_mono (x := stepF d st (.ext a0 a1)) h hK
  | .mkFn a0 a1, h => bindT_mono (x := stepF d st (.mkFn a0 a1)) h hK
  | .nilck a0, h => bindT_mono (x := stepF d st (.nilck a0)) h hK
  | .bad, h => bindT_mono (x := stepF d st (.bad)) h hK

theorem awpOps_mono {C C' : CallRel} (hC : CLe C C') : ∀ (ops : List AOper) {K K' : Cont} {Kp Kp' : AV → List AO → Prop} {st}, awpOps C ops K Kp st → (∀ st, K st → K' st) → (∀ v hp, Kp v hp → Kp' v hp) → awpOps C' ops K' Kp' st
  | [], _, _, _, _, _, h, hK, _ => hK _ h
  | ⟨d, op, none⟩ :: r, _, _, _, _, _, h, hK, hP => astep_mono hC (fun _ h => awpOps_mono hC r h hK hP) hP h
  | ⟨d, op, some (g, w)⟩ :: r, _, _, _, _, _, h, hK, hP => by
    unfold awpOps guardK at h ⊢
    split
    · rename_i he; rw [he] at h; exact astep_mono hC (fun _ h => awpOps_mono hC r h hK hP) hP h
    · rename_i he; rw [he] at h; exact awpOps_mono hC r h hK hP
    · rename_i he; rw [he] at h; exact h

theorem awp1_mono {C C' : CallRel} (hC : CLe C C') {o : Option AOper} {K K' : Cont} {Kp Kp' : AV → List AO → Prop} {st} (h : awp1 C K Kp st o) (hK : ∀ st, K st → K' st) (hP : ∀ v hp, Kp v hp → Kp' v hp) : awp1 C' K' Kp' st o := by
  cases o with
  | none => exact hK _ h
  | some o => exact awpOps_mono hC [o] h hK hP
theorem awpS_mono {C C' : CallRel} (hC : CLe C C') {ops : List AOper} {K K' : Cont} {Kp Kp' : AV → List AO → Prop} : ∀ (s : Sch) {st}, awpS C ops K Kp s st → (∀ st, K st → K' st) → (∀ v hp, Kp v hp → Kp' v hp) → awpS C' ops K' Kp' s st
  | .nil, _, h, hK, _ => hK _ h
  | .op _ r, _, h, hK, hP => awp1_mono hC h (fun _ h => awpS_mono hC r h hK hP) hP
  | .alt _ r e, _, h, hK, hP => ⟨awp1_mono hC h.1 (fun _ h => awpS_mono hC r h hK hP) hP, awpS_mono hC e h.2 hK hP⟩
theorem seqQ_mono {k k' : Cont} {Q Q' : APost} (hk : ∀ st, k st → k' st) (hq : ∀ e st, Q e st → Q' e st) : ∀ e st, seqQ k Q e st → seqQ k' Q' e st
  | .normal, _, h => hk _ h
  | .exit _, _, h => hq _ _ h
  | .ret, _, h => hq _ _ h
  | .pan _, _, h => hq _ _ h
theorem blockQ_mono {id} {Q Q' : APost} (hq : ∀ e st, Q e st → Q' e st) : ∀ e st, blockQ id Q e st → blockQ id Q' e st
  | .normal, _, h => hq _ _ h
  | .exit j, _, h => by
    by_cases hj : j = id
    · simp only [blockQ, if_pos hj] at h ⊢; exact hq _ _ h
    · simp only [blockQ, if_neg hj] at h ⊢; exact hq _ _ h
  | .ret, _, h => hq _ _ h
  | .pan _, _, h => hq _ _ h

theorem awp_mono {C C' : CallRel} (hC : CLe C C') : ∀ (c : ACode) {Q Q' : APost} {st}, awp C c Q st → (∀ e st, Q e st → Q' e st) → awp C' c Q' st
  | .skip, _, _, _, h, hq => hq _ _ h
  | .reg live ops, _, _, _, h, hq => awpOps_mono hC ops h (fun _ h => hq _ _ h) (fun _ _ h => hq _ _ h)
  | .any live ops sch, _, _, _, h, hq => ⟨h.1, awpS_mono hC sch h.2 (fun _ h => hq _ _ h) (fun _ _ h => hq _ _ h)⟩
  | .seq a b, _, _, _, h, hq => awp_mono hC a h (seqQ_mono (fun _ h => awp_mono hC b h hq) hq)
  | .cond c a b, _, _, st, h, hq => by
    unfold awp at h ⊢
    cases hc : c.ev st.tm <;> rw [hc] at h <;> first | exact ⟨fun e => awp_mono hC a (h.1 e) hq, fun e => awp_mono hC b (h.2 e) hq⟩ | exact h
  | .keep live a, _, _, _, h, hq => awp_mono hC a h hq
  | .block id a, _, _, _, h, hq => awp_mono hC a h (blockQ_mono hq)
  | .loop live a, _, _, _, h, hq => fun I hI => h I (fun st h => hI st (awp_mono hC a h (seqQ_mono (fun _ h => h) hq)))
  | .exit id, _, _, _, h, hq => hq _ _ h
  | .ret, _, _, _, h, hq => hq _ _ h
  | .dead, _, _, _, h, _ => h

theorem retQ_mono {Q Q' : ARes → List AO → Prop} (hq : ∀ r hp, Q r hp → Q' r hp) {hp} : ∀ {x}, retQ Q hp x → retQ Q' hp x
  | some _, h => ⟨h.1, hq _ _ h.2⟩
  | none, h => h
theorem resQ_mono {res} {Q Q' : ARes → List AO → Prop} (hq : ∀ r hp, Q r hp → Q' r hp) : ∀ e st, resQ res Q e st → resQ res Q' e st
  | .normal, _, h => retQ_mono hq h
  | .ret, _, h => retQ_mono hq h
  | .pan _, _, h => hq _ _ h
  | .exit _, _, h => h

section
variable {T : FuncId → Option AFunc} {Pr : CallRel}
theorem ACalls.mono (hPr : CMono Pr) : CMono (ACalls T Pr) := by
  intro f args hp Q Q' h hq X hX hP
  refine h (fun f args hp Q => ∀ Q' : ARes → List AO → Prop, (∀ r hp, Q r hp → Q' r hp) → X f args hp Q') ?_ ?_ Q' hq
  · intro f af args hp Q hT hw Q' hq
    exact hX f af args hp Q' hT (awp_mono (fun f args hp Q Q' h hq => h Q' hq) af.body hw (resQ_mono hq))
  · intro f args hp Q h Q' hq
    exact hP _ _ _ _ (hPr _ _ _ _ _ h hq)
/-- A function's contract out of its body. -/
theorem ACalls.intro (hPr : CMono Pr) {f af args hp} {Q : ARes → List AO → Prop} (hT : T f = some af) (h : awp (ACalls T Pr) af.body (resQ af.res Q) ⟨enum 0 args, [], hp⟩) : ACalls T Pr f args hp Q := by
  intro X hX hP
  exact hX f af args hp Q hT (awp_mono (C := ACalls T Pr) (C' := X) (fun f args hp Q Q' h hq => (ACalls.mono hPr _ _ _ _ _ h hq) X hX hP) af.body h (fun _ _ h => h))
theorem ACalls.prim {f args hp} {Q : ARes → List AO → Prop} (h : Pr f args hp Q) : ACalls T Pr f args hp Q := fun _ _ hP => hP _ _ _ _ h
end

section
variable {C : CallRel} (hC : CMono C)
include hC
/-- One round, and the loop again. -/
theorem awp_loop_round {live a} {Q : APost} {st} (h : awp C a (seqQ (awp C (.loop live a) Q) Q) (st.keep live)) : awp C (.loop live a) Q st :=
  fun I hI => hI _ (awp_mono hC a h (seqQ_mono (fun _ h => h I hI) (fun _ _ h => h)))
omit hC in
/-- A loop by an invariant over an index, and a measure. -/
theorem awp_loop {β : Type} (S : β → St) (I : β → Prop) (μ : β → Nat) {live a} {Q : APost} {st} (b0 : β) (h0 : st.keep live = S b0) (hI : I b0)
    (hr : ∀ b, I b → ∀ L : Cont, (∀ b', I b' → μ b' < μ b → ∀ st, st.keep live = S b' → L st) → awp C a (seqQ L Q) (S b)) : awp C (.loop live a) Q st := by
  intro J hJ
  have key : ∀ n b, μ b = n → I b → J (S b) := by
    intro n
    induction n using Nat.strongRecOn with
    | _ n ih =>
      intro b hn hb
      refine hJ _ (hr b hb _ (fun b' hb' hlt st hs => ?_))
      show J (st.keep live)
      rw [hs]
      exact ih _ (hn ▸ hlt) b' rfl hb'
  rw [h0]
  exact key _ b0 rfl hI
/-- A call by its contract. -/
theorem callK_of {f args hp} {Q Q' : ARes → List AO → Prop} (h : C f args hp Q) (ha : args.all AV.mem = true) (hq : ∀ r hp', Q r hp' → Q' r hp') : callK C f args hp Q' := ⟨ha, hC _ _ _ _ _ h hq⟩
end

theorem wrap_i64 {n : Int} (h1 : -9223372036854775808 ≤ n) (h2 : n ≤ 9223372036854775807) : IntKind.i64.wrap n = n := IntWalk.i64_in n ⟨h1, h2⟩

/-! the words of a walk -/
section
variable {C : CallRel} {K : Cont} {Kp : AV → List AO → Prop} {Q : APost} {st : St}
theorem awpOps_nil : awpOps C [] K Kp st = K st := rfl
theorem awpOps_cons {d op r} : awpOps C (⟨d, op, none⟩ :: r) K Kp st = astep C d (awpOps C r K Kp) Kp st op := rfl
theorem awpOps_guard {d op r g w} : awpOps C (⟨d, op, some (g, w)⟩ :: r) K Kp st = guardK (isB w (fnd .undef st.tm g)) (astepK C d op (awpOps C r K Kp) Kp) (skipK d (awpOps C r K Kp)) st := rfl
theorem guardK_true {p q : Cont} : guardK (some true) p q st = p st := rfl
theorem guardK_false {p q : Cont} : guardK (some false) p q st = q st := rfl
theorem isB_bool {w b} : isB w (.bool b) = some (b == w) := rfl
theorem skipK_eq {d} : skipK d K st = K (st.put d (.tup [])) := rfl
theorem isB_no {w} : isB w (.tup []) = some false := rfl
theorem astepK_eq {d op} : astepK C d op K Kp st = astep C d K Kp st op := rfl
theorem astep_call {d f args} : astep C d K Kp st (.call f args) = callK C f (args.map (AR.ev st.tm ·)) st.hp (retK d st K Kp) := rfl
theorem astep_callV {d f args} : astep C d K Kp st (.callV f args) = callVK C (args.map (AR.ev st.tm ·)) st.hp (retK d st K Kp) (f.ev st.tm) := rfl
theorem callVK_fn {f caps args hp} {R : ARes → List AO → Prop} : callVK C args hp R (.fn f caps) = callK C f (args ++ caps) hp R := rfl
theorem bindT_some {s : St} : bindT (some s) K = K s := rfl
theorem astep_mv {d x} : astep C d K Kp st (.mv x) = K ⟨putT st.tm d (x.ev st.tm), st.lo, st.hp⟩ := rfl
theorem astep_alloc {d z} : astep C d K Kp st (.alloc z) = bindT (boxL st d z) K := rfl
theorem astep_box {d x} : astep C d K Kp st (.box x) = bindT (ifv (x.ev st.tm).mem (boxL st d (x.ev st.tm).cells)) K := rfl
theorem astep_allocH {d z} : astep C d K Kp st (.allocH z) = K (boxHp st d z) := rfl
theorem astep_boxH {d x} : astep C d K Kp st (.boxH x) = bindT (ifv (x.ev st.tm).mem (some (boxHp st d (x.ev st.tm).cells))) K := rfl
theorem ifv_true {α : Type} {x : Option α} : ifv true x = x := rfl
theorem boxL_some {d cs} : boxL st (some d) cs = boxLd st d cs (noLocs d st.tm) := rfl
theorem boxLd_true {d cs} : boxLd st d cs true = some ⟨ins d (.loc d 0) st.tm, ins d cs st.lo, st.hp⟩ := rfl
theorem boxHp_eq {d cs} : boxHp st d cs = ⟨putT st.tm d (.ptr st.hp.length 0), st.lo, st.hp ++ [.cells cs]⟩ := rfl
theorem astep_store {d n a x} : astep C d K Kp st (.store n a x) = bindT (storeV st n (x.ev st.tm) (a.ev st.tm)) K := rfl
theorem astep_storeL {d s n a x} : astep C d K Kp st (.storeL s n a x) = bindT (storeSV st s n (x.ev st.tm) (a.ev st.tm)) K := rfl
theorem storeSV_loc {s n v s' o} : storeSV st s n v (.loc s' o) = sel (s == s') (storeL st s' (okv n v) (upd o v.cells (fnd [] st.lo s'))) none := rfl
theorem storeV_loc {n v s o} : storeV st n v (.loc s o) = storeL st s (okv n v) (upd o v.cells (fnd [] st.lo s)) := rfl
theorem storeV_ptr {n v id o} : storeV st n v (.ptr id o) = storeP st id (okv n v) ((hcells st.hp id).bind (upd o v.cells)) := rfl
theorem storeL_true {s cs} : storeL st s true (some cs) = some ⟨st.tm, ins s cs st.lo, st.hp⟩ := rfl
theorem storeP_true {id cs} : storeP st id true (some cs) = some ⟨st.tm, st.lo, st.hp.set id (.cells cs)⟩ := rfl
theorem astep_app {d m e s x} : astep C d K Kp st (.app m e s x) = bindT ((apx m e st.hp (s.ev st.tm) (x.ev st.tm)).map fun r => ⟨putT st.tm d r.1, st.lo, r.2⟩) K := rfl
theorem astep_cp {d e x y} : astep C d K Kp st (.cp e x y) = bindT ((cpx e st.hp (y.ev st.tm) (x.ev st.tm)).map fun r => ⟨putT st.tm d r.1, st.lo, r.2⟩) K := rfl
theorem astep_mkArr {d z n} : astep C d K Kp st (.mkArr z n) = bindT (mkArrV st d z (n.ev st.tm)) K := rfl
/-- What an operation that writes nothing yields, taken on. -/
def valK (d : Option Nat) (K : Cont) (st : St) : Option AV → Prop
  | some v => K ⟨putT st.tm d v, st.lo, st.hp⟩
  | none => False
theorem valK_some {d v} : valK d K st (some v) = K ⟨putT st.tm d v, st.lo, st.hp⟩ := rfl
theorem bindT_put {d} {x : Option AV} : bindT (x.map (st.put d)) K = valK d K st x := by cases x <;> rfl
theorem astep_pick {d c a b} : astep C d K Kp st (.pick c a b) = valK d K st (pickV (c.ev st.tm) (a.ev st.tm) (b.ev st.tm)) := bindT_put
theorem astep_build {d z ps} : astep C d K Kp st (.build z ps) = valK d K st ((lay st.tm z ps).map .agg) := bindT_put
theorem astep_mkSl0 {d e} : astep C d K Kp st (.mkSl e []) = K ⟨putT st.tm d (.sl .cap0 e []), st.lo, st.hp⟩ := rfl
theorem astep_mkSl {d e p ps} : astep C d K Kp st (.mkSl e (p :: ps)) = valK d K st (mkSlV e ((p :: ps).map (AR.ev st.tm ·))) := bindT_put
theorem astep_load {d n ag a} : astep C d K Kp st (.load n ag a) = valK d K st (loadV st.lo st.hp n ag (a.ev st.tm)) := bindT_put
theorem astep_loadS {d s n ag a} : astep C d K Kp st (.loadS s n ag a) = valK d K st (loadSV st.lo s n ag (a.ev st.tm)) := bindT_put
theorem astep_fadd {d n a} : astep C d K Kp st (.fadd n a) = valK d K st (faddV n (a.ev st.tm)) := bindT_put
theorem astep_ixa {d e x i} : astep C d K Kp st (.ixa e x i) = valK d K st (ixaV e (x.ev st.tm) (i.ev st.tm)) := bindT_put
theorem astep_ixs {d x i} : astep C d K Kp st (.ixs x i) = valK d K st (ixsV (x.ev st.tm) (i.ev st.tm)) := bindT_put
theorem astep_bin {d op x y} : astep C d K Kp st (.bin op x y) = valK d K st (abin op (x.ev st.tm) (y.ev st.tm)) := bindT_put
theorem astep_beq {d pr ne x y} : astep C d K Kp st (.beq pr ne x y) = valK d K st (beqW pr ne (x.ev st.tm) (y.ev st.tm)) := bindT_put
theorem astep_un {d op x} : astep C d K Kp st (.un op x) = valK d K st (aun op (x.ev st.tm)) := bindT_put
theorem astep_conv {d k x} : astep C d K Kp st (.conv k x) = valK d K st (convV k (x.ev st.tm)) := bindT_put
theorem astep_len {d b x} : astep C d K Kp st (.len b x) = valK d K st (lenV b (x.ev st.tm)) := bindT_put
theorem astep_slstr {d x lo hi} : astep C d K Kp st (.slstr x lo hi) = valK d K st (slstrV (x.ev st.tm) (bnd st.tm 0 lo) (bnd st.tm (lenN (x.ev st.tm)) hi)) := bindT_put
theorem astep_slsl {d e x lo hi} : astep C d K Kp st (.slsl e x lo hi) = valK d K st (slslV e hi.isNone (x.ev st.tm) (bnd st.tm 0 lo) (bnd st.tm (lenN (x.ev st.tm)) hi)) := bindT_put
theorem astep_ext {d x i} : astep C d K Kp st (.ext x i) = valK d K st (extV i (x.ev st.tm)) := bindT_put
theorem astep_mkFn {d f caps} : astep C d K Kp st (.mkFn f caps) = valK d K st (mkFnV f (caps.map (AR.ev st.tm ·))) := bindT_put
theorem astep_nilck {d x} : astep C d K Kp st (.nilck x) = valK d K st (nilckV (x.ev st.tm)) := bindT_put
theorem pickV_bool {t a b} : pickV (.bool t) a b = some (if t = true then a else b) := rfl
theorem loadV_loc {lo hp n ag s o} : loadV lo hp n ag (.loc s o) = ld n ag (fnd [] lo s) o := rfl
theorem loadV_el {lo hp n ag cs o} : loadV lo hp n ag (.el cs o) = ld n ag cs o := rfl
theorem loadV_ptr {lo hp n ag id o} : loadV lo hp n ag (.ptr id o) = (hcells hp id).bind fun cs => ld n ag cs o := rfl
theorem loadSV_loc {lo k n ag s o} : loadSV lo (some k) n ag (.loc s o) = sel (k == s) (ld n ag (fnd [] lo s) o) none := rfl
theorem loadSV_el {lo n ag cs o} : loadSV lo none n ag (.el cs o) = ld n ag cs o := rfl
theorem ld_true {n cs o} : ld n true cs o = (sub o n cs).map .agg := rfl
theorem ld_false {n cs o} : ld n false cs o = (nth cs o).bind nl := rfl
theorem nth_zero {x l} : nth (x :: l) 0 = some x := rfl
theorem nth_succ {x l n} : nth (x :: l) (n + 1) = nth l n := rfl
theorem nth_eq : ∀ (l : List AV) (n : Nat), nth l n = l[n]?
  | [], n => by simp [nth]
  | _ :: _, 0 => by simp [nth]
  | _ :: l, n + 1 => by simp [nth, nth_eq l n]
theorem sub_done {l} : sub 0 0 l = some [] := by cases l <;> rfl
theorem sub_take {x l n} : sub 0 (n + 1) (x :: l) = (sub 0 n l).map (x :: ·) := rfl
theorem sub_skip {x l o n} : sub (o + 1) n (x :: l) = sub o n l := by cases n <;> rfl
theorem upd_done {l} : upd 0 [] l = some l := by cases l <;> rfl
theorem upd_put {v vs c l} : upd 0 (v :: vs) (c :: l) = (upd 0 vs l).map (v :: ·) := rfl
theorem upd_skip {o vs c l} : upd (o + 1) vs (c :: l) = (upd o vs l).map (c :: ·) := by cases vs <;> rfl
theorem faddV_loc {d s o} : faddV d (.loc s o) = some (.loc s (o + d)) := rfl
theorem faddV_el {d cs o} : faddV d (.el cs o) = some (.el cs (o + d)) := rfl
theorem faddV_ptr {d id o} : faddV d (.ptr id o) = some (.ptr id (o + d)) := rfl
theorem ixaV_sl {e t e' xs k n} : ixaV e (.sl t e' xs) (.int k n) = if e = e' ∧ 0 ≤ n then (xs[n.toNat]?).map fun x => .el x.cells 0 else none := rfl
theorem ixaV_arr {e id e' off len k n} : ixaV e (.arr id e' off len) (.int k n) = if e = e' ∧ 0 ≤ n ∧ n.toNat < len then some (.ptr id (off + n.toNat * e)) else none := rfl
theorem ixsV_str {s : List Nat} {k n} : ixsV (.str s) (.int k n) = if 0 ≤ n then (s[n.toNat]?).map fun c => .int .u8 (c : Int) else none := rfl
theorem convV_int {k j n} : convV k (.int j n) = some (.int k (k.wrap n)) := rfl
theorem lenV_str {s} : lenV true (.str s) = some (.int .i64 s.length) := rfl
theorem lenV_sl {t e xs} : lenV false (.sl t e xs) = some (.int .i64 xs.length) := rfl
theorem lenV_arr {id e o n} : lenV false (.arr id e o n) = some (.int .i64 n) := rfl
theorem slstrV_some {s l h} : slstrV (.str s) (some l) (some h) = if l ≤ h ∧ h ≤ s.length then some (.str ((s.take h).drop l)) else none := rfl
theorem slslV_sl {e w t e' xs l h} : slslV e w (.sl t e' xs) (some l) (some h) = if e = e' ∧ l ≤ h ∧ h ≤ xs.length then some (.sl (if w = true then t else .no) e ((xs.take h).drop l)) else none := rfl
theorem slslV_arr {e w id e' off n l h} : slslV e w (.arr id e' off n) (some l) (some h) = if e = e' ∧ l ≤ h ∧ h ≤ n ∧ (l = 0 ∨ l < n) then some (.arr id e (off + l * e) (h - l)) else none := rfl
theorem extV_tup {i vs} : extV i (.tup vs) = (nth vs i).bind nl := rfl
theorem nilckV_ptr {id o} : nilckV (.ptr id o) = some (.ptr id o) := rfl
theorem nilckV_loc {s o} : nilckV (.loc s o) = some (.loc s o) := rfl
theorem nilckV_el {s o} : nilckV (.el s o) = some (.el s o) := rfl
theorem lay_nil {tm cs} : lay tm cs [] = some cs := rfl
theorem lay_cons {tm cs o n x r} : lay tm cs ((o, n, x) :: r) = (ifc (okv n (x.ev tm)) (upd o (x.ev tm).cells cs)).bind fun cs => lay tm cs r := rfl
theorem ifc_true {x} : ifc true x = x := rfl
theorem mkSlV_eq {e vs} : mkSlV e vs = if vs.all (okv e) = true then some (.sl .no e vs) else none := rfl
theorem mkFnV_eq {f vs} : mkFnV f vs = if vs.all AV.mem = true then some (.fn f vs) else none := rfl
theorem ev_t {tm n} : AR.ev tm (.t n) = fnd .undef tm n := rfl
theorem ev_c {tm v} : AR.ev tm (.c v) = v := rfl
theorem bnd_none {tm d} : bnd tm d none = some d := rfl
def bndV : AV → Option Nat
  | .int _ n => if 0 ≤ n then some n.toNat else none
  | _ => none
theorem bnd_some {tm d x} : bnd tm d (some x) = bndV (x.ev tm) := by cases h : x.ev tm <;> simp only [bnd, bndV, h]
theorem bndV_int {k n} : bndV (.int k n) = if 0 ≤ n then some n.toNat else none := rfl
theorem abin_int {op k a j b} : abin op (.int k a) (.int j b) = if k = j then intBin op k a b else shBin op k a b := rfl
theorem abin_str {op a b} : abin op (.str a) (.str b) = strBin op a b := rfl
theorem beqV_bool {ne a b} : beqV ne (.bool a) (.bool b) = some (.bool (ne != (a == b))) := rfl
theorem aun_not {b} : aun .not (.bool b) = some (.bool (!b)) := rfl
theorem aun_neg {k n} : aun .neg (.int k n) = some (.int k (k.wrap (0 - n))) := rfl
theorem retK_ret {d v hp} : retK d st K Kp (.ret v) hp = K ⟨putT st.tm d v, st.lo, hp⟩ := rfl
theorem retK_pan {d v hp} : retK d st K Kp (.pan v) hp = Kp v hp := rfl
theorem putT_some {tm d v} : putT tm (some d) v = ins d v tm := rfl
theorem putT_none {tm v} : putT tm none v = tm := rfl
theorem regK_eq {live} : regK live Q st = Q .normal ⟨keep live st.tm, keep live st.lo, st.hp⟩ := rfl
theorem keep_eq {live} : st.keep live = ⟨keep live st.tm, keep live st.lo, st.hp⟩ := rfl
theorem seqQ_normal {k} : seqQ k Q .normal st = k st := rfl
theorem seqQ_exit {k j} : seqQ k Q (.exit j) st = Q (.exit j) st := rfl
theorem seqQ_ret {k} : seqQ k Q .ret st = Q .ret st := rfl
theorem seqQ_pan {k v} : seqQ k Q (.pan v) st = Q (.pan v) st := rfl
theorem blockQ_normal {id} : blockQ id Q .normal st = Q .normal st := rfl
theorem blockQ_exit {id j} : blockQ id Q (.exit j) st = if j = id then Q .normal st else Q (.exit j) st := rfl
theorem blockQ_ret {id} : blockQ id Q .ret st = Q .ret st := rfl
theorem blockQ_pan {id v} : blockQ id Q (.pan v) st = Q (.pan v) st := rfl
theorem condK_bool {p q t} : condK p q st (.bool t) = ((t = true → p st) ∧ (t = false → q st)) := rfl
theorem awp_skip : awp C .skip Q st = Q .normal st := rfl
theorem awp_reg {live ops} : awp C (.reg live ops) Q st = awpOps C ops (regK live Q) (panK Q) st := rfl
/-- A chain of operations, as a list. -/
def Sch.flat (ops : List AOper) : Sch → Option (List AOper)
  | .nil => some []
  | .op i r => match ops[i]? with
    | some o => (r.flat ops).map (o :: ·)
    | none => none
  | .alt .. => none
theorem awpOps_one {o : AOper} {r : List AOper} {Kp : AV → List AO → Prop} : awpOps C (o :: r) K Kp st = awpOps C [o] (awpOps C r K Kp) Kp st := by
  obtain ⟨d, op, g⟩ := o
  cases g <;> rfl
theorem awpS_flat {ops : List AOper} {Kp : AV → List AO → Prop} : ∀ (s : Sch) {l : List AOper}, s.flat ops = some l → awpS C ops K Kp s = awpOps C l K Kp
  | .nil, l, hl => by simp only [Sch.flat, Option.some.injEq] at hl; subst hl; rfl
  | .op i r, l, hl => by
    simp only [Sch.flat] at hl
    cases ho : ops[i]? with
    | none => rw [ho] at hl; cases hl
    | some o =>
      rw [ho] at hl
      simp only [Option.map_eq_some_iff] at hl
      obtain ⟨l', hl', rfl⟩ := hl
      funext st
      rw [awpOps_one, ← awpS_flat r hl']
      simp only [awpS, ho, awp1]
  | .alt .., l, hl => by cases hl
theorem awp_any {live ops s l} (hl : Sch.flat ops s = some l) (hf : locsFree st.tm ops = true) (h : awpOps C l (regK live Q) (panK Q) st) : awp C (.any live ops s) Q st := ⟨hf, by rw [awpS_flat s hl]; exact h⟩
theorem awp_seq {a b} : awp C (.seq a b) Q st = awp C a (seqQ (awp C b Q) Q) st := rfl
theorem awp_cond {c a b} : awp C (.cond c a b) Q st = condK (awp C a Q) (awp C b Q) st (c.ev st.tm) := rfl
theorem awp_block {id a} : awp C (.block id a) Q st = awp C a (blockQ id Q) st := rfl
theorem awp_exit {id} : awp C (.exit id) Q st = Q (.exit id) st := rfl
theorem awp_ret : awp C .ret Q st = Q .ret st := rfl
theorem resQ_ret {res} {R : ARes → List AO → Prop} : resQ res R .ret st = retQ R st.hp (evRes st res) := rfl
theorem resQ_normal {res} {R : ARes → List AO → Prop} : resQ res R .normal st = retQ R st.hp (evRes st res) := rfl
theorem resQ_pan {res} {R : ARes → List AO → Prop} {v} : resQ res R (.pan v) st = R (.pan v) st.hp := rfl
theorem retQ_some {R : ARes → List AO → Prop} {hp vs} : retQ R hp (some vs) = (vs.all AV.mem = true ∧ R (.ret (resOf vs)) hp) := rfl
theorem evRes_nil : evRes st [] = some [] := rfl
theorem evRes_cons {r rs} : evRes st (r :: rs) = (r.ev st).bind fun v => (evRes st rs).map (v :: ·) := rfl
theorem arv_tmp {t} : ARV.ev st (.tmp t) = some (fnd .undef st.tm t) := rfl
theorem arv_cell {a n ag} : ARV.ev st (.cell a n ag) = loadV st.lo st.hp n ag (fnd .undef st.tm a) := rfl
theorem resOf_one {v} : resOf [v] = v := rfl
theorem resOf_two {u v l} : resOf (u :: v :: l) = .tup (u :: v :: l) := rfl
theorem resOf_nil : resOf [] = .tup [] := rfl
theorem enum_nil {n} : enum n [] = [] := rfl
theorem enum_cons {n v l} : enum n (v :: l) = (n, v) :: enum (n + 1) l := rfl
theorem fnd_nil {α : Type} {d : α} {t} : fnd d [] t = d := rfl
theorem fnd_cons {α : Type} {d : α} {k v l t} : fnd d ((k, v) :: l) t = sel (k == t) v (fnd d l t) := rfl
theorem ins_nil {α : Type} {k} {v : α} : ins k v [] = [(k, v)] := rfl
theorem ins_cons {α : Type} {k} {v : α} {j u l} : ins k v ((j, u) :: l) = sel (decide (k < j)) ((k, v) :: (j, u) :: l) (sel (k == j) ((k, v) :: l) ((j, u) :: ins k v l)) := rfl
theorem sel_true {α : Type} {x y : α} : sel true x y = x := rfl
theorem sel_false {α : Type} {x y : α} : sel false x y = y := rfl
theorem hasN_nil {k} : hasN [] k = false := rfl
theorem hasN_cons {x l k} : hasN (x :: l) k = sel (k == x) true (hasN l k) := rfl
theorem keep_nil {α : Type} {ks} : keep (α := α) ks [] = [] := rfl
theorem keep_cons {α : Type} {ks k} {v : α} {l} : keep ks ((k, v) :: l) = sel (hasN ks k) ((k, v) :: keep ks l) (keep ks l) := rfl
theorem noLocs_nil {d} : noLocs d [] = true := rfl
theorem noLocs_cons {d k v l} : noLocs d ((k, v) :: l) = (notLoc d v && noLocs d l) := rfl
end
theorem okv_eq {n v} : okv n v = (v.mem && v.cells.length == n) := rfl
section
variable {C : CallRel} {Q : APost} {st : St}
/-- The same with what follows under a name: terms stay small. -/
theorem awp_seq_k {a b} (h : ∀ K : Cont, (∀ st, awp C b Q st → K st) → awp C a (seqQ K Q) st) : awp C (.seq a b) Q st := h _ (fun _ h => h)
theorem awp_start {c} {res} {R : ARes → List AO → Prop} (h : ∀ Q : APost, (∀ e st, resQ res R e st → Q e st) → awp C c Q st) : awp C c (resQ res R) st := h _ (fun _ _ h => h)
theorem awp_cond_k {c a b} {t : Bool} (hc : c.ev st.tm = .bool t) (ht : t = true → awp C a Q st) (hf : t = false → awp C b Q st) : awp C (.cond c a b) Q st := by
  rw [awp_cond, hc]; exact ⟨ht, hf⟩
theorem awp_cond_p {c a b} {p : Prop} [Decidable p] (hc : c.ev st.tm = .bool (decide p)) (ht : p → awp C a Q st) (hf : ¬ p → awp C b Q st) : awp C (.cond c a b) Q st :=
  awp_cond_k hc (fun h => ht (of_decide_eq_true h)) (fun h => hf (of_decide_eq_false h))
end
theorem apx_own {e hp id xs t y ys} (h : htok hp id = true) (hl : xs.length + (ys.length + 1) ≤ 4294967296) : apx false e hp (.sl (.own id) e xs) (.sl t e (y :: ys)) = some (.sl (.own hp.length) e (xs ++ y :: ys), hp.set id .dead ++ [.tok]) := by
  simp only [apx, List.length_cons, h, hl, and_self, if_true]
theorem apx_cap0 {e e2 hp xs t y ys} (hl : ys.length + 1 ≤ 4294967296) : apx false e hp (.sl .cap0 e2 xs) (.sl t e (y :: ys)) = some (.sl (.own hp.length) e (y :: ys), hp ++ [.tok]) := by
  simp only [apx, List.length_cons, hl, and_self, if_true, Bool.false_eq_true, if_false]
end Go.Proofs.Ytnldohnfdeineaa.Abs
/- The abstract machine and the given one: what a value says of memory; what a step leaves. -/
namespace Go.Proofs.Ytnldohnfdeineaa.Abs
open Go

/-- The machine's side: the abstract heap, where its objects lie (blk), how far a row is filled (fil), its cells (siz); pr: blocks that a call of this stack holds for itself; the world. -/
structure Env where
  hp : List AO
  blk : Nat → Nat
  fil : Nat → Nat
  siz : Nat → Nat
  pr : Nat → Prop
  w : World

def Env.mut (E : Env) (b : Nat) : Prop := ∃ (id : Nat) (cs : List AV), E.hp[id]? = some (.cells cs) ∧ E.blk id = b
/-- Cells off .. off + n of block b stay as they are. -/
structure Env.still (E : Env) (b off n : Nat) : Prop where
  lt : b < E.w.heap.size
  pr : ¬ E.pr b
  mu : ¬ E.mut b
  tk : ∀ id : Nat, E.hp[id]? = some .tok → E.blk id = b → off + n ≤ E.fil id
/-- What a slice's token says. -/
def Env.token (E : Env) (t : Tok) (e b off n cap : Nat) : Prop :=
  match t with
  | .no => True
  | .cap0 => n = 0 ∧ cap = 0
  | .own id => id < E.hp.length ∧ (E.hp[id]? = some .tok → E.blk id = b ∧ (n < cap → off + n * e = E.fil id) ∧ off + cap * e ≤ E.siz id)

inductive RV (E : Env) : AV → Value → Prop
  | int {k n} : RV E (.int k n) (.int k n)
  | bool {b} : RV E (.bool b) (.bool b)
  | str {s : List Nat} {b : ByteArray} (h : s = b.data.toList.map UInt8.toNat) : RV E (.str s) (.string b)
  | nilp : RV E .nilp (.pointer none)
  | nil {t e} (h : ∀ id, t ≠ .own id) : RV E (.sl t e []) (.slice none 0 0)
  | sl {t e xs b off cap} (cv : Nat → Value) (hlen : xs.length ≤ cap) (hcap : cap ≤ maxLen) (hsz : ∀ x ∈ xs, x.cells.length = e)
      (hcell : ∀ k, k < xs.length * e → E.w.cell? ⟨b, off + k, none⟩ = some (cv k)) (hone : ∀ k, k < xs.length * e → (cv k).oneCell' = true)
      (hrel : ∀ (i : Nat) (x : AV) (j : Nat) (y : AV), xs[i]? = some x → x.cells[j]? = some y → RV E y (cv (i * e + j)))
      (hst : E.still b off (xs.length * e)) (ht : E.token t e b off xs.length cap) : RV E (.sl t e xs) (.slice (some ⟨b, off, none⟩) xs.length cap)
  | arr {id e off n cap} (hid : id < E.hp.length) (hlen : n ≤ cap) (hcap : cap ≤ maxLen) (hs : off + cap * e ≤ E.siz id) : RV E (.arr id e off n) (.slice (some ⟨E.blk id, off, none⟩) n cap)
  | ptr {id off} (hid : id < E.hp.length) : RV E (.ptr id off) (.pointer (some ⟨E.blk id, off, none⟩))
  | agg {cs : List AV} {vs : List Value} (hl : vs.length = cs.length) (h1 : ∀ v ∈ vs, v.oneCell' = true) (h : ∀ (j : Nat) (y : AV) (v : Value), cs[j]? = some y → vs[j]? = some v → RV E y v) : RV E (.agg cs) (.agg vs.toArray)
  | tup {cs : List AV} {vs : List Value} (hl : vs.length = cs.length) (h : ∀ (j : Nat) (y : AV) (v : Value), cs[j]? = some y → vs[j]? = some v → RV E y v) : RV E (.tup cs) (.tuple vs.toArray)
  | fn {f} {cs : List AV} {vs : List Value} (hl : vs.length = cs.length) (h : ∀ (j : Nat) (y : AV) (v : Value), cs[j]? = some y → vs[j]? = some v → RV E y v) : RV E (.fn f cs) (.func (.func f) #[] vs.toArray)
  | undef {v} (h : v.oneCell' = true) : RV E .undef v

/-- The part of a block that is read-only. -/
def frz (w : World) (b : Nat) : Nat × Nat := match w.heap[b]? with
  | some (.cells _ _ r) => r
  | _ => (0, 0)
theorem frz_alloc (w : World) (c : Array Value) (te b : Nat) : frz (w.alloc (.cells c te)) b = frz w b := by
  simp only [frz, World.alloc]
  rw [Array.getElem?_push]
  by_cases h : b = w.heap.size
  · subst h; simp
  · rw [if_neg h]
theorem frz_setRow (w : World) (g : Nat) (row : Array Value) (b : Nat) : frz (w.setRow g row) b = frz w b := by
  simp only [frz, World.setRow, Array.getElem?_modify]
  by_cases h : g = b
  · rw [if_pos h]
    cases w.heap[b]? with
    | none => rfl
    | some x => cases x <;> rfl
  · rw [if_neg h]
/-- From one moment to a later one: what a value says stays true. -/
structure Le (E E' : Env) : Prop where
  len : E.hp.length ≤ E'.hp.length
  blk : ∀ i, i < E.hp.length → E'.blk i = E.blk i
  fil : ∀ i, i < E.hp.length → E'.fil i = E.fil i
  siz : ∀ i, i < E.hp.length → E'.siz i = E.siz i
  size : E.w.heap.size ≤ E'.w.heap.size
  os : E'.w.os = E.w.os
  tape : E'.w.tape = E.w.tape
  out : E'.w.output = E.w.output
  frz : ∀ b, frz E'.w b = frz E.w b
  ktok : ∀ i : Nat, i < E.hp.length → E'.hp[i]? = some .tok → E.hp[i]? = some .tok
  kcells : ∀ (i : Nat) (cs : List AV), i < E.hp.length → E'.hp[i]? = some (.cells cs) → ∃ cs', E.hp[i]? = some (.cells cs')
  pr : ∀ b, E.pr b → E'.pr b
  pr' : ∀ b, E'.pr b → b < E.w.heap.size → E.pr b
  new : ∀ (i : Nat) (o : AO), E.hp.length ≤ i → E'.hp[i]? = some o → o ≠ .dead → E.w.heap.size ≤ E'.blk i ∨
    (o = .tok ∧ ∃ j : Nat, E.hp[j]? = some .tok ∧ E'.blk i = E.blk j ∧ E.fil j ≤ E'.fil i) ∨
    (∃ cs, o = .cells cs ∧ ∃ (j : Nat) (cs' : List AV), E.hp[j]? = some (.cells cs') ∧ E'.blk i = E.blk j)
  cell : ∀ b k v, E.still b k 1 → E.w.cell? ⟨b, k, none⟩ = some v → E'.w.cell? ⟨b, k, none⟩ = some v
/-- Blocks that nothing alive lies in are left whole. -/
def Kept (E E' : Env) : Prop := ∀ b, b < E.w.heap.size → (∀ (i : Nat) o, E.hp[i]? = some o → o ≠ .dead → E.blk i ≠ b) → E'.w.heap[b]? = E.w.heap[b]?

theorem Le.refl (E : Env) : Le E E := ⟨Nat.le_refl _, fun _ _ => rfl, fun _ _ => rfl, fun _ _ => rfl, Nat.le_refl _, rfl, rfl, rfl, fun _ => rfl, fun _ _ h => h, fun _ cs _ h => ⟨cs, h⟩, fun _ h => h, fun _ h _ => h,
  fun i o hi ho _ => (by rw [List.getElem?_eq_none hi] at ho; cases ho), fun _ _ _ _ h => h⟩
theorem Kept.refl (E : Env) : Kept E E := fun _ _ _ => rfl

theorem Env.still.sub {E : Env} {b off n k m} (h : E.still b off n) (h1 : off ≤ k) (h2 : k + m ≤ off + n) : E.still b k m :=
  ⟨h.lt, h.pr, h.mu, fun id hid hb => by have := h.tk id hid hb; omega⟩
theorem lt_of_get {α : Type} {l : List α} {i : Nat} {x : α} (h : l[i]? = some x) : i < l.length := (List.getElem?_eq_some_iff.1 h).1
theorem Le.mut_old {E E' : Env} (h : Le E E') {b : Nat} (hb : b < E.w.heap.size) (hm : E'.mut b) : E.mut b := by
  obtain ⟨id, cs, hid, rfl⟩ := hm
  rcases Nat.lt_or_ge id E.hp.length with hl | hl
  · obtain ⟨cs', hc⟩ := h.kcells id cs hl hid
    exact ⟨id, cs', hc, (h.blk id hl).symm⟩
  · rcases h.new id _ hl hid (by simp) with h1 | ⟨h1, _⟩ | ⟨_, _, j, cs', hj, hbj⟩
    · omega
    · cases h1
    · exact ⟨j, cs', hj, hbj.symm⟩
theorem Env.still.le {E E' : Env} {b off n} (hs : E.still b off n) (h : Le E E') : E'.still b off n := by
  refine ⟨Nat.lt_of_lt_of_le hs.lt h.size, fun hp => hs.pr (h.pr' b hp hs.lt), fun hm => hs.mu (h.mut_old hs.lt hm), fun id hid hb => ?_⟩
  rcases Nat.lt_or_ge id E.hp.length with hl | hl
  · rw [h.fil id hl]
    exact hs.tk id (h.ktok id hl hid) (by rw [← h.blk id hl]; exact hb)
  · have hlt := hs.lt
    rcases h.new id _ hl hid (by simp) with h1 | ⟨_, j, hj, hbj, hf⟩ | ⟨_, h1, _⟩
    · omega
    · have := hs.tk j hj (by rw [← hbj]; exact hb)
      omega
    · cases h1
theorem Env.token.le {E E' : Env} {t e b off n cap} (ht : E.token t e b off n cap) (h : Le E E') : E'.token t e b off n cap := by
  unfold Env.token at ht ⊢
  cases t with
  | no => trivial
  | cap0 => exact ht
  | own id =>
    obtain ⟨h1, h2⟩ := ht
    refine ⟨Nat.lt_of_lt_of_le h1 h.len, fun hid => ?_⟩
    rw [h.blk id h1, h.fil id h1, h.siz id h1]
    exact h2 (h.ktok id h1 hid)

theorem RV.le {E E' : Env} (h : Le E E') {v : AV} {x : Value} (hv : RV E v x) : RV E' v x := by
  induction hv with
  | int => exact .int
  | bool => exact .bool
  | str h => exact .str h
  | nilp => exact .nilp
  | nil h => exact .nil h
  | sl cv hlen hcap hsz hcell hone hrel hst ht ih =>
    refine .sl cv hlen hcap hsz (fun k hk => ?_) hone ih (hst.le h) (ht.le h)
    exact h.cell _ _ _ (hst.sub (by omega) (by omega)) (hcell k hk)
  | arr hid hlen hcap hs =>
    rw [← h.blk _ hid]
    exact .arr (Nat.lt_of_lt_of_le hid h.len) hlen hcap (by rw [h.siz _ hid]; exact hs)
  | ptr hid =>
    rw [← h.blk _ hid]
    exact .ptr (Nat.lt_of_lt_of_le hid h.len)
  | agg hl h1 _ ih => exact .agg hl h1 ih
  | tup hl _ ih => exact .tup hl ih
  | fn hl _ ih => exact .fn hl ih
  | undef h => exact .undef h

theorem Le.alive_old {E E' : Env} (h : Le E E') {b : Nat} (hb : b < E.w.heap.size) {i : Nat} {o : AO} (hi : E'.hp[i]? = some o) (ho : o ≠ .dead) (hbi : E'.blk i = b) :
    ∃ (j : Nat) (o' : AO), E.hp[j]? = some o' ∧ o' ≠ .dead ∧ E.blk j = b := by
  rcases Nat.lt_or_ge i E.hp.length with hl | hl
  · cases o with
    | dead => exact absurd rfl ho
    | tok => exact ⟨i, .tok, h.ktok i hl hi, by simp, by rw [← h.blk i hl]; exact hbi⟩
    | cells cs => obtain ⟨cs', hc⟩ := h.kcells i cs hl hi; exact ⟨i, _, hc, by simp, by rw [← h.blk i hl]; exact hbi⟩
  · rcases h.new i o hl hi ho with h1 | ⟨_, j, hj, hbj, _⟩ | ⟨_, _, j, cs', hj, hbj⟩
    · omega
    · exact ⟨j, .tok, hj, by simp, by rw [← hbj]; exact hbi⟩
    · exact ⟨j, _, hj, by simp, by rw [← hbj]; exact hbi⟩

theorem Kept.trans {E0 E E' : Env} (hl : Le E0 E) (h1 : Kept E0 E) (h2 : Kept E E') : Kept E0 E' := by
  intro b hb hn
  rw [h2 b (Nat.lt_of_lt_of_le hb hl.size) ?_, h1 b hb hn]
  intro i o hi ho hbi
  obtain ⟨j, o', hj, ho', hbj⟩ := hl.alive_old hb hi ho hbi
  exact hn j o' hj ho' hbj

theorem Le.trans {E0 E E' : Env} (h1 : Le E0 E) (h2 : Le E E') : Le E0 E' := by
  refine ⟨Nat.le_trans h1.len h2.len, fun i hi => ?_, fun i hi => ?_, fun i hi => ?_, Nat.le_trans h1.size h2.size, h2.os.trans h1.os, h2.tape.trans h1.tape, h2.out.trans h1.out, fun b => (h2.frz b).trans (h1.frz b), fun i hi h => ?_, fun i cs hi h => ?_,
    fun b hb => h2.pr b (h1.pr b hb), fun b hb hlt => h1.pr' b (h2.pr' b hb (Nat.lt_of_lt_of_le hlt h1.size)) hlt, fun i o hi ho hd => ?_, fun b k v hs hc => h2.cell b k v (hs.le h1) (h1.cell b k v hs hc)⟩
  · rw [h2.blk i (Nat.lt_of_lt_of_le hi h1.len), h1.blk i hi]
  · rw [h2.fil i (Nat.lt_of_lt_of_le hi h1.len), h1.fil i hi]
  · rw [h2.siz i (Nat.lt_of_lt_of_le hi h1.len), h1.siz i hi]
  · exact h1.ktok i hi (h2.ktok i (Nat.lt_of_lt_of_le hi h1.len) h)
  · obtain ⟨cs', hc⟩ := h2.kcells i cs (Nat.lt_of_lt_of_le hi h1.len) h
    exact h1.kcells i cs' hi hc
  · have hsz := h1.size
    have old : ∀ (j : Nat) (o' : AO), E.hp[j]? = some o' → o' ≠ .dead → E0.w.heap.size ≤ E.blk j ∨
        (o' = .tok ∧ ∃ i : Nat, E0.hp[i]? = some .tok ∧ E.blk j = E0.blk i ∧ E0.fil i ≤ E.fil j) ∨
        (∃ cs, o' = .cells cs ∧ ∃ (i : Nat) (cs' : List AV), E0.hp[i]? = some (.cells cs') ∧ E.blk j = E0.blk i) := by
      intro j o' hj ho'
      rcases Nat.lt_or_ge j E0.hp.length with hl | hl
      · cases o' with
        | dead => exact absurd rfl ho'
        | tok => exact .inr (.inl ⟨rfl, j, h1.ktok j hl hj, h1.blk j hl, by rw [h1.fil j hl]; exact Nat.le_refl _⟩)
        | cells cs => obtain ⟨cs', hc⟩ := h1.kcells j cs hl hj; exact .inr (.inr ⟨cs, rfl, j, cs', hc, h1.blk j hl⟩)
      · exact h1.new j o' hl hj ho'
    rcases Nat.lt_or_ge i E.hp.length with hl | hl
    · cases o with
      | dead => exact absurd rfl hd
      | tok =>
        have := old i .tok (h2.ktok i hl ho) (by simp)
        rw [h2.blk i hl, h2.fil i hl]
        exact this
      | cells cs =>
        obtain ⟨cs', hc⟩ := h2.kcells i cs hl ho
        rw [h2.blk i hl]
        rcases old i _ hc (by simp) with h | ⟨h, _⟩ | ⟨_, _, h⟩
        · exact .inl h
        · cases h
        · exact .inr (.inr ⟨cs, rfl, h⟩)
    · rcases h2.new i o hl ho hd with h | ⟨rfl, j, hj, hb, hf⟩ | ⟨cs, rfl, j, cs', hj, hb⟩
      · exact .inl (by omega)
      · rw [hb]
        rcases old j _ hj (by simp) with h | ⟨_, i', hi', hb', hf'⟩ | ⟨_, h, _⟩
        · exact .inl h
        · exact .inr (.inl ⟨rfl, i', hi', hb', by omega⟩)
        · cases h
      · rw [hb]
        rcases old j _ hj (by simp) with h | ⟨h, _⟩ | ⟨_, _, h⟩
        · exact .inl h
        · cases h
        · exact .inr (.inr ⟨cs, rfl, h⟩)

/-- The heap's side. -/
structure WR (E : Env) : Prop where
  tok : ∀ id : Nat, E.hp[id]? = some .tok → ∃ cur te, E.w.heap[E.blk id]? = some (.cells cur te (0, 0)) ∧ cur.size = E.siz id ∧ E.fil id ≤ cur.size
  cells : ∀ (id : Nat) (cs : List AV), E.hp[id]? = some (.cells cs) → ∃ cur te, E.w.heap[E.blk id]? = some (.cells cur te (0, 0)) ∧ cur.size = E.siz id ∧ cs.length ≤ cur.size ∧
    ∀ (j : Nat) (y : AV), cs[j]? = some y → ∃ v : Value, cur[j]? = some v ∧ v.oneCell' = true ∧ RV E y v
  inj : ∀ (i j : Nat) o o', E.hp[i]? = some o → E.hp[j]? = some o' → o ≠ .dead → o' ≠ .dead → E.blk i = E.blk j → i = j
  npr : ∀ (i : Nat) o, E.hp[i]? = some o → o ≠ .dead → ¬ E.pr (E.blk i)
  prlt : ∀ b, E.pr b → b < E.w.heap.size

/-- An address of a place that stays as it is, where cells cs lie, off ahead of it. -/
def ElAt (E : Env) (cs : List AV) (off : Nat) (x : Value) : Prop :=
  ∃ b p, x = .pointer (some ⟨b, p + off, none⟩) ∧ E.still b p cs.length ∧ ∀ (j : Nat) (y : AV), cs[j]? = some y → ∃ v : Value, E.w.cell? ⟨b, p + j, none⟩ = some v ∧ v.oneCell' = true ∧ RV E y v
/-- What a slot says. -/
def RT (E : Env) (lb : Nat → Nat) : AV → Value → Prop
  | .undef, _ => True
  | .loc s o, x => x = .pointer (some ⟨lb s, o, none⟩)
  | .el cs o, x => ElAt E cs o x
  | v, x => RV E v x

theorem ElAt.le {E E' : Env} (h : Le E E') {cs off x} (he : ElAt E cs off x) : ElAt E' cs off x := by
  obtain ⟨b, p, rfl, hs, hc⟩ := he
  refine ⟨b, p, rfl, hs.le h, fun j y hj => ?_⟩
  obtain ⟨v, h1, h2, h3⟩ := hc j y hj
  exact ⟨v, h.cell _ _ _ (hs.sub (by omega) (by have := lt_of_get hj; omega)) h1, h2, h3.le h⟩
theorem RT.of_rv {E : Env} {lb v x} (h : RV E v x) : RT E lb v x := by
  cases h with
  | int => exact .int
  | bool => exact .bool
  | str h => exact .str h
  | nilp => exact .nilp
  | nil h => exact .nil h
  | sl cv hlen hcap hsz hcell hone hrel hst ht => exact .sl cv hlen hcap hsz hcell hone hrel hst ht
  | arr hid hlen hcap hs => exact .arr hid hlen hcap hs
  | ptr hid => exact .ptr hid
  | agg hl h1 h => exact .agg hl h1 h
  | tup hl h => exact .tup hl h
  | fn hl h => exact .fn hl h
  | undef h => trivial
theorem RT.rv {E : Env} {lb v x} (h : RT E lb v x) (hm : v.mem = true) : RV E v x := by
  cases v <;> first | exact h | (simp [AV.mem] at hm)
theorem RT.le {E E' : Env} (hl : Le E E') {lb v x} (h : RT E lb v x) : RT E' lb v x := by
  cases v <;> first | exact RV.le hl h | exact trivial | exact ElAt.le hl h | exact h
end Go.Proofs.Ytnldohnfdeineaa.Abs
/- The abstract machine and the given one: which code an abstract code stands for. -/
namespace Go.Proofs.Ytnldohnfdeineaa.Abs
open Go

inductive UD where
  | int (k : IntKind) | bool | str | sl (e : Nat) | st (fs : List (Nat × Nat)) | pt | oth | pr
/-- What is needed of a type: cells, bytes, is it a struct or an array, its kind, its zero. -/
structure TI where
  size : Nat
  bytes : Nat
  ag : Bool
  und : UD
  zero : List AV

def zrel : AV → Value → Bool
  | .int k n, .int k' n' => k == k' && n == n'
  | .bool b, .bool b' => b == b'
  | .str s, .string b => s.isEmpty && b.data.toList.isEmpty
  | .sl .cap0 _ [], .slice none 0 0 => true
  | .nilp, .pointer none => true
  | .undef, v => v.oneCell'
  | _, _ => false
def zrelL : List AV → List Value → Bool
  | [], [] => true
  | a :: l, v :: r => zrel a v && zrelL l r
  | _, _ => false
def fieldsOk (P : Program) : List Field → List (Nat × Nat) → Bool
  | [], [] => true
  | f :: r, (o, n) :: l => f.offset == o && (match P.info? f.type with | some i => i.size == n | none => false) && fieldsOk P r l
  | _, _ => false
def udOk (P : Program) : TypeDesc → UD → Bool
  | .int k, .int k' => k == k'
  | .bool, .bool => true
  | .string, .str => true
  | .slice e, .sl e' => e == e'
  | .struct fs, .st l => fieldsOk P fs.toList l
  | .pointer _, .pt => true
  | .struct fs, .pr => fieldsOk P fs.toList [(0, 1), (1, 1)]
  | _, .oth => true
  | _, _ => false
def descAg : TypeDesc → Bool
  | .struct _ => true
  | .array _ _ => true
  | _ => false
/-- A struct of two numbers, that can be compared. -/
def prOk (P : Program) (t : Nat) : UD → Bool
  | .pr => !P.stoodInHeld t && !P.eqGuardType P.depth t && (match P.underlying t with | some (.struct fs) => fs.toList.all fun f => f.name != "_" && (match P.underlying f.type with | some (.int _) => true | _ => false) | _ => false)
  | _ => true
def tiOk (P : Program) (t : Nat) (ti : TI) : Bool :=
  match P.info? t, P.underlying t with
  | some i, some d => i.size == ti.size && i.bytes == ti.bytes && (match i.zero with | some z => zrelL ti.zero z.cells.toList | none => false) && ti.ag == descAg d && udOk P d ti.und && prOk P t ti.und
  | _, _ => false
def ttOk (P : Program) : List (Nat × TI) → Bool
  | [] => true
  | (t, ti) :: l => tiOk P t ti && ttOk P l
def lk : List (Nat × TI) → Nat → Option TI
  | [], _ => none
  | (k, ti) :: l, t => if k == t then some ti else lk l t
theorem lk_ok {P TT t ti} (h : ttOk P TT = true) (hl : lk TT t = some ti) : tiOk P t ti = true := by
  induction TT with
  | nil => simp [lk] at hl
  | cons x l ih =>
    obtain ⟨k, tj⟩ := x
    simp only [ttOk, Bool.and_eq_true] at h
    simp only [lk] at hl
    split at hl
    · rename_i hk; cases hl; rw [← (beq_iff_eq.1 hk)]; exact h.1
    · exact ih h.2 hl

/-- The facts of a type. -/
theorem ti_facts {P t ti} (h : tiOk P t ti = true) : ∃ i d z, P.info? t = some i ∧ P.underlying t = some d ∧ i.size = ti.size ∧ i.bytes = ti.bytes ∧ i.zero = some z ∧ zrelL ti.zero z.cells.toList = true ∧ ti.ag = descAg d ∧ udOk P d ti.und = true := by
  unfold tiOk at h
  split at h
  · rename_i i d hi hd
    simp only [Bool.and_eq_true, beq_iff_eq] at h
    obtain ⟨⟨⟨⟨⟨h1, h2⟩, h3⟩, h4⟩, h5⟩, _⟩ := h
    cases hz : i.zero with
    | none => rw [hz] at h3; cases h3
    | some z => rw [hz] at h3; exact ⟨i, d, z, hi, hd, h1, h2, hz, h3, h4, h5⟩
  · cases h

theorem ti_pr {P t ti} (h : tiOk P t ti = true) : prOk P t ti.und = true := by
  unfold tiOk at h
  split at h
  · simp only [Bool.and_eq_true] at h; exact h.2
  · cases h

def constOk : AV → Value → Bool
  | .int k n, .int k' n' => k == k' && n == n'
  | .bool b, .bool b' => b == b'
  | .str s, .string b => s == b.data.toList.map UInt8.toNat
  | .sl .cap0 _ [], .slice none 0 0 => true
  | .nilp, .pointer none => true
  | _, _ => false
def opdOk : AR → Operand → Bool
  | .t n, .tmp m => n == m
  | .c (.fn f []), .func g => f == g
  | .c v, .const x => constOk v x
  | _, _ => false
def opdsOk : List AR → List Operand → Bool
  | [], [] => true
  | a :: l, b :: r => opdOk a b && opdsOk l r
  | _, _ => false
def oopdOk : Option AR → Option Operand → Bool
  | none, none => true
  | some a, some b => opdOk a b
  | _, _ => false
def zeqv : AV → AV → Bool
  | .int k n, .int k' n' => k == k' && n == n'
  | .bool b, .bool b' => b == b'
  | .str [], .str [] => true
  | .sl .cap0 e [], .sl .cap0 e' [] => e == e'
  | .nilp, .nilp => true
  | .undef, .undef => true
  | _, _ => false
def zeqL : List AV → List AV → Bool
  | [], [] => true
  | a :: l, b :: r => zeqv a b && zeqL l r
  | _, _ => false
theorem zeqv_eq {a b : AV} (h : zeqv a b = true) : a = b := by
  unfold zeqv at h
  split at h <;> simp_all
theorem zeqL_eq : ∀ {a b : List AV}, zeqL a b = true → a = b
  | [], [], _ => rfl
  | _ :: _, _ :: _, h => by simp only [zeqL, Bool.and_eq_true] at h; rw [zeqv_eq h.1, zeqL_eq h.2]
  | [], _ :: _, h => by cases h
  | _ :: _, [], h => by cases h
def partsOk (fs : List (Nat × Nat)) : List (Nat × Nat × AR) → List (Nat × Operand) → Bool
  | [], [] => true
  | (o, n, x) :: l, (i, y) :: r => (match fs[i]? with | some (o', n') => o == o' && n == n' | none => false) && opdOk x y && partsOk fs l r
  | _, _ => false
def rowOk : Nat → List AR → List (Nat × Operand) → Bool
  | _, [], [] => true
  | k, x :: l, (i, y) :: r => k == i && opdOk x y && rowOk (k + 1) l r
  | _, _, _ => false
def udSl : Option TI → Option Nat
  | some ⟨_, _, _, .sl e, _⟩ => some e
  | _ => none
def udSt : Option TI → Option (List (Nat × Nat))
  | some ⟨_, _, _, .st fs, _⟩ => some fs
  | some ⟨_, _, _, .pr, _⟩ => some [(0, 1), (1, 1)]
  | _ => none
/-- Slices of type t have elements of e cells, and of few bytes. -/
def slOk (TT : List (Nat × TI)) (t e : Nat) : Bool := match udSl (lk TT t) with
  | some te => (match lk TT te with | some ti => ti.size == e && decide (0 < e) && decide (ti.bytes ≤ 4096) && ti.zero.length == e | none => false)
  | none => false
def udIs (TT : List (Nat × TI)) (t : Nat) (p : UD → Bool) : Bool := match lk TT t with
  | some ti => p ti.und
  | none => false
def isStr : UD → Bool | .str => true | _ => false
def isInt : UD → Bool | .int _ => true | _ => false
def isKind (k : IntKind) : UD → Bool | .int j => k == j | _ => false
def isBool : UD → Bool | .bool => true | _ => false
def isPr : UD → Bool | .pr => true | _ => false
def isLen (b : Bool) : UD → Bool | .str => b | .sl _ => !b | _ => false

def okOp (TT : List (Nat × TI)) : AOp → Op → Bool
  | .mv x, .move y => opdOk x y
  | .mv x, .assign y => opdOk x y
  | .pick c a b, .pick c' a' b' => opdOk c c' && opdOk a a' && opdOk b b'
  | .alloc z, .alloc t => (match lk TT t with | some ti => zeqL z ti.zero | none => false)
  | .allocH z, .alloc t => (match lk TT t with | some ti => zeqL z ti.zero | none => false)
  | .box x, .box _ y => opdOk x y
  | .boxH x, .box _ y => opdOk x y
  | .build z ps, .build t qs => (match lk TT t with | some ti => zeqL z ti.zero | none => false) && (match udSt (lk TT t) with | some fs => partsOk fs ps qs.toList | none => false)
  | .mkSl e ps, .buildSlice t n qs => slOk TT t e && rowOk 0 ps qs.toList && n == ps.length && decide (n * e ≤ 16777216)
  | .load n ag a, .load t b => (match lk TT t with | some ti => ti.size == n && ti.ag == ag && (ag || n == 1) && n != 0 | none => false) && opdOk a b
  | .loadS _ n ag a, .load t b => (match lk TT t with | some ti => ti.size == n && ti.ag == ag && (ag || n == 1) && n != 0 | none => false) && opdOk a b
  | .storeL _ n a x, .store t b y => (match lk TT t with | some ti => ti.size == n && n != 0 | none => false) && opdOk a b && opdOk x y
  | .store n a x, .store t b y => (match lk TT t with | some ti => ti.size == n && n != 0 | none => false) && opdOk a b && opdOk x y
  | .fadd d a, .fieldAddr t b f => (match udSt (lk TT t) with | some fs => (match fs[f]? with | some (o, n) => o == d && n != 0 | none => false) | none => false) && opdOk a b
  | .ixa e x i, .indexAddr t y j => slOk TT t e && opdOk x y && opdOk i j
  | .ixs x i, .index t y j => udIs TT t isStr && opdOk x y && opdOk i j
  | .bin op x y, .binOp op' _ a b _ => op == op' && opdOk x a && opdOk y b
  | .beq pr ne x y, .binOp op t a b _ => (match op, ne with | .eql, false => true | .neq, true => true | _, _ => false) && udIs TT t (match pr with | true => isPr | false => isBool) && opdOk x a && opdOk y b
  | .un op x, .unOp op' _ y => op == op' && opdOk x y
  | .conv k x, .convert s d y => udIs TT s isInt && udIs TT d (isKind k) && opdOk x y
  | .len b x, .call ⟨.builtin .len, args, ts⟩ => (match args.toList, ts.toList with | [y], [t] => udIs TT t (isLen b) && opdOk x y | _, _ => false)
  | .app _ e s x, .call ⟨.builtin .append, args, ts⟩ => (match args.toList, ts.toList with | [a, b], [t, u] => t == u && slOk TT t e && opdOk s a && opdOk x b | _, _ => false)
  | .slstr x lo hi, .slice t y l h none => udIs TT t isStr && opdOk x y && oopdOk lo l && oopdOk hi h
  | .slsl e x lo hi, .slice t y l h none => slOk TT t e && opdOk x y && oopdOk lo l && oopdOk hi h
  | .mkArr z n, .makeSlice t l c => slOk TT t z.length && (match udSl (lk TT t) with | some te => (match lk TT te with | some ti => zeqL z ti.zero | none => false) | none => false) && opdOk n l && opdOk n c
  | .ext x i, .extract y j => i == j && opdOk x y
  | .call f args, .call ⟨.value (.func g), bs, _⟩ => f == g && opdsOk args bs.toList
  | .callV x args, .call ⟨.value (.tmp t), bs, _⟩ => opdOk x (.tmp t) && opdsOk args bs.toList
  | .mkFn f caps, .makeFunc (.func g) fs cs => f == g && fs.toList.isEmpty && opdsOk caps cs.toList
  | .nilck x, .nilCheck y => opdOk x y
  | .bad, _ => true
  | .cp e x y, .call ⟨.builtin .copy, args, ts⟩ => (match args.toList, ts.toList with | [a, b], [t, _] => slOk TT t e && opdOk x a && opdOk y b | _, _ => false)
  | _, _ => false
def guardOk (ops : Array Oper) : Option (Nat × Bool) → Option (Nat × Bool) → Bool
  | none, none => true
  | some (g, w), some (j, w') => (match ops[j]? with | some o => o.dst == some g | none => false) && w == w'
  | _, _ => false
def stOk (d : Option Nat) : AOp → Bool
  | .store .. => d.isNone
  | .storeL .. => d.isNone
  | _ => true
/-- n: how many slots there are. -/
def okOper (TT : List (Nat × TI)) (n : Nat) (ops : Array Oper) (a : AOper) (o : Oper) : Bool :=
  a.dst == o.dst && (match a.dst with | some d => decide (d < n) | none => true) && okOp TT a.op o.op && guardOk ops a.guard o.guard && stOk a.dst a.op
def okOpers (TT : List (Nat × TI)) (n : Nat) (ops : Array Oper) : List AOper → List Oper → Bool
  | [], [] => true
  | a :: l, o :: r => okOper TT n ops a o && okOpers TT n ops l r
  | _, _ => false
end Go.Proofs.Ytnldohnfdeineaa.Abs
/- The abstract machine and the given one: an operation that writes nothing does what its abstract twin does. -/
namespace Go.Proofs.Ytnldohnfdeineaa.Abs
open Go

variable {P : Program} {TT : List (Nat × TI)}

/-- The local boxes. -/
def LR (E : Env) (lb : Nat → Nat) (lo : List (Nat × List AV)) : Prop := ∀ s, fnd [] lo s ≠ [] → E.pr (lb s) ∧
  ∃ cur te, E.w.heap[lb s]? = some (.cells cur te (0, 0)) ∧ cur.size = (fnd [] lo s).length ∧ ∀ (j : Nat) (y : AV), (fnd [] lo s)[j]? = some y → ∃ v : Value, cur[j]? = some v ∧ v.oneCell' = true ∧ RV E y v
/-- The slots. -/
def TR (E : Env) (lb : Nat → Nat) (tm : List (Nat × AV)) (tmps : Array Value) : Prop := ∀ t, RT E lb (fnd .undef tm t) (tmps.getD t undef)

section
variable {E : Env} {lb : Nat → Nat} {tm : List (Nat × AV)} {a : Act}

theorem const_rv {v : AV} {x : Value} (h : constOk v x = true) : RV E v x := by
  unfold constOk at h
  split at h
  · simp only [Bool.and_eq_true, beq_iff_eq] at h; obtain ⟨rfl, rfl⟩ := h; exact .int
  · simp only [beq_iff_eq] at h; subst h; exact .bool
  · simp only [beq_iff_eq] at h; exact .str h
  · exact .nil (by simp)
  · exact .nilp
  · cases h

theorem opd_rt (ht : TR E lb tm a.tmps) {x : AR} {y : Operand} (h : opdOk x y = true) : RT E lb (x.ev tm) (a.eval y) := by
  unfold opdOk at h
  split at h
  · simp only [beq_iff_eq] at h; subst h; exact ht _
  · simp only [beq_iff_eq] at h; subst h; exact RV.fn (vs := []) rfl (fun j y v hj => by simp at hj)
  · exact RT.of_rv (const_rv h)
  · cases h

theorem opds_rv (ht : TR E lb tm a.tmps) : ∀ {xs : List AR} {ys : List Operand}, opdsOk xs ys = true → (xs.map (·.ev tm)).all AV.mem = true →
    (ys.map a.eval).length = (xs.map (AR.ev tm ·)).length ∧ ∀ (j : Nat) (y : AV) (v : Value), (xs.map (AR.ev tm ·))[j]? = some y → (ys.map a.eval)[j]? = some v → RV E y v
  | [], [], _, _ => ⟨rfl, fun j y v h => by simp at h⟩
  | x :: xs, y :: ys, h, hm => by
    simp only [opdsOk, Bool.and_eq_true] at h
    simp only [List.map_cons, List.all_cons, Bool.and_eq_true] at hm
    obtain ⟨h1, h2⟩ := opds_rv ht h.2 hm.2
    refine ⟨by simpa using h1, fun j u v hj hv => ?_⟩
    cases j with
    | zero => simp at hj hv; subst hj; subst hv; exact (opd_rt ht h.1).rv hm.1
    | succ j => simp at hj hv; exact h2 j u v (by simpa using hj) (by simpa using hv)
  | [], _ :: _, h, _ => by cases h
  | _ :: _, [], h, _ => by cases h

theorem rv_int {E : Env} {k n x} (h : RV E (.int k n) x) : x = .int k n := by cases h; rfl
theorem rv_bool {E : Env} {b x} (h : RV E (.bool b) x) : x = .bool b := by cases h; rfl
theorem rt_int {k n x} (h : RT E lb (.int k n) x) : x = .int k n := rv_int h
theorem rt_bool {b x} (h : RT E lb (.bool b) x) : x = .bool b := rv_bool h
theorem rt_str {s x} (h : RT E lb (.str s) x) : ∃ b : ByteArray, x = .string b ∧ s = b.data.toList.map UInt8.toNat := by
  have h0 : RV E (.str s) x := h
  cases h0 with
  | str h1 => exact ⟨_, rfl, h1⟩
/-- One cell is no aggregate. -/
theorem RV.one {v x} (h : RV E v x) (h1 : x.oneCell' = true) : v.cells = [v] := by
  cases h <;> first | rfl | (simp [Value.oneCell'] at h1)
theorem zrel_rv : ∀ {v : AV} {x : Value}, zrel v x = true → RV E v x ∧ x.oneCell' = true := by
  intro v x h
  unfold zrel at h
  split at h
  · simp only [Bool.and_eq_true, beq_iff_eq] at h; obtain ⟨rfl, rfl⟩ := h; exact ⟨.int, rfl⟩
  · simp only [beq_iff_eq] at h; subst h; exact ⟨.bool, rfl⟩
  · simp only [Bool.and_eq_true, List.isEmpty_iff] at h; exact ⟨.str (by rw [h.1, h.2]; rfl), rfl⟩
  · exact ⟨.nil (by simp), rfl⟩
  · exact ⟨.nilp, rfl⟩
  · exact ⟨.undef h, h⟩
  · cases h
theorem zrelL_rv : ∀ {l : List AV} {r : List Value}, zrelL l r = true → r.length = l.length ∧ ∀ (j : Nat) (y : AV), l[j]? = some y → ∃ v : Value, r[j]? = some v ∧ v.oneCell' = true ∧ RV E y v
  | [], [], _ => ⟨rfl, fun j y h => by simp at h⟩
  | a :: l, v :: r, h => by
    simp only [zrelL, Bool.and_eq_true] at h
    obtain ⟨h1, h2⟩ := zrelL_rv h.2
    obtain ⟨h3, h4⟩ := zrel_rv h.1
    refine ⟨by simpa using h1, fun j y hj => ?_⟩
    cases j with
    | zero => simp at hj; subst hj; exact ⟨v, rfl, h4, h3⟩
    | succ j => simp at hj; simpa using h2 j y hj
  | [], _ :: _, h => by cases h
  | _ :: _, [], h => by cases h

/-- The cells of a value that may stand in memory. -/
theorem rv_cells {v x} (h : RV E v x) (hm : v.mem = true) : x.cells.size = v.cells.length ∧ ∀ (j : Nat) (y : AV), v.cells[j]? = some y → ∃ u : Value, x.cells[j]? = some u ∧ u.oneCell' = true ∧ RV E y u := by
  have one : ∀ {v x}, RV E v x → v.cells = [v] → x.cells = #[x] → x.oneCell' = true → x.cells.size = v.cells.length ∧ ∀ (j : Nat) (y : AV), v.cells[j]? = some y → ∃ u : Value, x.cells[j]? = some u ∧ u.oneCell' = true ∧ RV E y u := by
    intro v x h hv hx h1
    rw [hv, hx]
    refine ⟨rfl, fun j y hj => ?_⟩
    cases j with
    | zero => simp at hj; subst hj; exact ⟨x, rfl, h1, h⟩
    | succ j => simp at hj
  have h0 := h
  cases h with
  | agg hl h1 h =>
    refine ⟨by simpa [Value.cells, AV.cells] using hl, fun j y hj => ?_⟩
    have hlt : j < _ := lt_of_get hj
    simp only [AV.cells] at hj hlt
    rw [← hl] at hlt
    exact ⟨_, by simp [Value.cells, List.getElem?_eq_getElem hlt], h1 _ (List.getElem_mem hlt), h j y _ hj (List.getElem?_eq_getElem hlt)⟩
  | tup hl h => simp [AV.mem] at hm
  | undef h => simp [AV.mem] at hm
  | _ => exact one h0 rfl rfl rfl

theorem sub_spec : ∀ {o n : Nat} {cs l : List AV}, sub o n cs = some l → l.length = n ∧ ∀ j, j < n → l[j]? = cs[o + j]?
  | 0, 0, _, _, h => by simp [sub] at h; subst h; exact ⟨rfl, fun j hj => by omega⟩
  | 0, n + 1, x :: cs, l, h => by
    simp only [sub, Option.map_eq_some_iff] at h
    obtain ⟨l', h1, rfl⟩ := h
    obtain ⟨h2, h3⟩ := sub_spec h1
    refine ⟨by simp [h2], fun j hj => ?_⟩
    cases j with
    | zero => simp
    | succ j => have := h3 j (by omega); simpa using this
  | o + 1, n, x :: cs, l, h => by
    have h : sub o n cs = some l := by cases n <;> simpa [sub] using h
    obtain ⟨h2, h3⟩ := sub_spec h
    refine ⟨h2, fun j hj => ?_⟩
    rw [h3 j hj, show o + 1 + j = (o + j) + 1 by omega]
    simp
  | 0, n + 1, [], l, h => by simp [sub] at h
  | o + 1, n, [], l, h => by cases n <;> simp [sub] at h

theorem nl_some {v r : AV} (h : nl v = some r) : v = r := by
  cases v <;> simp [nl] at h <;> exact h
/-- Loading cells that lie there. -/
theorem load_cells {n : Nat} {ag : Bool} {cs : List AV} {o b p : Nat} {r : AV} {t : Nat} {i : TypeInfo} {d : TypeDesc} (hi : P.info? t = some i) (hd : P.underlying t = some d) (hn : i.size = n) (hag : ag = descAg d) (h1 : (ag || n == 1) = true)
    (hc : ∀ (j : Nat) (y : AV), cs[j]? = some y → ∃ v : Value, E.w.cell? ⟨b, p + j, none⟩ = some v ∧ v.oneCell' = true ∧ RV E y v) (hl : ld n ag cs o = some r) :
    ∃ x, (Instr.loadAt t (.pointer (some ⟨b, p + o, none⟩))).run P E.w = .ok x E.w ∧ RV E r x := by
  have hisag : (isAgg t).run P E.w = .ok ag E.w := by
    subst hag
    unfold isAgg
    simp only [Sem.run_bind, run_underlying hd, Result.andThen_ok]
    cases d <;> rfl
  have hsz : (sizeOf t).run P E.w = .ok n E.w := by
    simp [sizeOf, typeInfo, hi, hn]
  cases ag with
  | true =>
    simp only [ld, Option.map_eq_some_iff] at hl
    obtain ⟨l, hs, rfl⟩ := hl
    obtain ⟨h2, h3⟩ := sub_spec hs
    have hcell : ∀ j, j < n → ∃ v : Value, E.w.cell? ((⟨b, p + o, none⟩ : Addr).add j) = some v ∧ v.oneCell' = true ∧ ∀ y, l[j]? = some y → RV E y v := by
      intro j hj
      have hlt : j < l.length := by omega
      have h4 := h3 j hj
      rw [List.getElem?_eq_getElem hlt] at h4
      obtain ⟨v, hv, ho, hr⟩ := hc (o + j) _ h4.symm
      refine ⟨v, by rw [Addr.add_lit, Nat.add_assoc]; exact hv, ho, fun y hy => ?_⟩
      rw [List.getElem?_eq_getElem hlt] at hy
      cases hy
      exact hr
    have hf : ∀ j, j < n → E.w.cell? ((⟨b, p + o, none⟩ : Addr).add j) = some ((E.w.cell? ((⟨b, p + o, none⟩ : Addr).add j)).getD undef) := by
      intro j hj
      obtain ⟨v, hv, _⟩ := hcell j hj
      rw [hv]; rfl
    have hrun := run_loadCells (P := P) E.w ⟨b, p + o, none⟩ n (fun j => (E.w.cell? ((⟨b, p + o, none⟩ : Addr).add j)).getD undef) hf
    refine ⟨_, ?_, RV.agg (cs := l) (vs := (List.range n).map fun j => (E.w.cell? ((⟨b, p + o, none⟩ : Addr).add j)).getD undef) (by simp [h2]) ?_ ?_⟩
    · simp only [Instr.loadAt, Instr.sureAddr, Sem.run_bind, Sem.run_pure, Result.andThen_ok, loadVar, hisag, if_true, hsz, hrun]
    · intro v hv
      obtain ⟨j, hj, rfl⟩ := List.mem_map.1 hv
      obtain ⟨u, hu, ho, _⟩ := hcell j (List.mem_range.1 hj)
      rw [hu]; exact ho
    · intro j y v hy hv
      have hj : j < n := by have := lt_of_get hy; omega
      obtain ⟨u, hu, _, hr⟩ := hcell j hj
      have hv2 : v = u := by
        simp [hj, hu] at hv
        exact hv.symm
      subst hv2
      exact hr y hy
  | false =>
    simp only [ld, nth_eq, Option.bind_eq_some_iff] at hl
    obtain ⟨r', hl, hnl⟩ := hl
    have hrr : r' = r := nl_some hnl
    subst hrr
    obtain ⟨v, hv, ho, hr⟩ := hc o r' hl
    refine ⟨v, ?_, hr⟩
    simp only [Instr.loadAt, Instr.sureAddr, Sem.run_bind, Sem.run_pure, Result.andThen_ok, loadVar, hisag, Bool.false_eq_true, if_false, run_load, hv]

theorem cell_of_heap {w : World} {b k : Nat} {cur : Array Value} {te : Nat} {fr : Nat × Nat} (h : w.heap[b]? = some (.cells cur te fr)) : w.cell? ⟨b, k, none⟩ = cur[k]? := by
  simp [World.cell?, h]

theorem exec_value {o : Oper} {s : Sem Value} {x : Value} {w w' : World} (h : execOp a.eval o = (do pure (.value (← s)))) (hr : s.run P w = .ok x w') : (execOp a.eval o).run P w = .ok (.value x) w' := by
  rw [h]; simp [hr]

theorem hcells_eq {hp : List AO} {id : Nat} {cs : List AV} (h : hcells hp id = some cs) : hp[id]? = some (.cells cs) := by
  unfold hcells at h
  split at h
  · rename_i he; cases h; exact he
  · cases h

theorem ld_nil {n : Nat} {ag : Bool} {o : Nat} (hn : n ≠ 0) : ld n ag [] o = none := by
  cases ag with
  | false => simp [ld, nth]
  | true =>
    cases n with
    | zero => exact absurd rfl hn
    | succ n => cases o <;> simp [ld, sub]

/-- What is loaded. -/
theorem load_run {lo : List (Nat × List AV)} {n : Nat} {ag : Bool} {v r : AV} {x : Value} {t : Nat} {ti : TI} (hw : WR E) (hlo : LR E lb lo) (ht : tiOk P t ti = true) (h1 : (ti.size == n && ti.ag == ag && (ag || n == 1) && n != 0) = true) (hx : RT E lb v x) (h : loadV lo E.hp n ag v = some r) :
    ∃ y, (Instr.loadAt t x).run P E.w = .ok y E.w ∧ RV E r y := by
  obtain ⟨i, d, z, hi, hd, hsz, _, _, _, hag, _⟩ := ti_facts ht
  simp only [Bool.and_eq_true, beq_iff_eq, bne_iff_ne] at h1
  obtain ⟨⟨⟨h2, h3⟩, h4⟩, h5⟩ := h1
  have go : ∀ {cs : List AV} {o b p : Nat}, (∀ (j : Nat) (y : AV), cs[j]? = some y → ∃ v : Value, E.w.cell? ⟨b, p + j, none⟩ = some v ∧ v.oneCell' = true ∧ RV E y v) → ld n ag cs o = some r →
      ∃ y, (Instr.loadAt t (.pointer (some ⟨b, p + o, none⟩))).run P E.w = .ok y E.w ∧ RV E r y :=
    fun hc hl => load_cells hi hd (hsz.trans h2) (h3.symm.trans hag) h4 hc hl
  cases v with
  | loc s o =>
    simp only [loadV] at h
    have hx : x = .pointer (some ⟨lb s, o, none⟩) := hx
    subst hx
    have hne : fnd [] lo s ≠ [] := fun he => by rw [he, ld_nil h5] at h; cases h
    obtain ⟨_, cur, te, hcur, _, hcs⟩ := hlo s hne
    have := go (b := lb s) (p := 0) (fun j y hj => by
      obtain ⟨v, hv, ho, hr⟩ := hcs j y hj
      exact ⟨v, by rw [Nat.zero_add, cell_of_heap hcur, hv], ho, hr⟩) h
    simpa using this
  | el cs o =>
    simp only [loadV] at h
    obtain ⟨b, p, rfl, _, hcs⟩ := (show ElAt E cs o x from hx)
    exact go hcs h
  | ptr id o =>
    simp only [loadV, Option.bind_eq_some_iff] at h
    obtain ⟨cs, hc, h⟩ := h
    have hx : RV E (.ptr id o) x := hx
    cases hx
    obtain ⟨cur, te, hcur, _, _, hcs⟩ := hw.cells id cs (hcells_eq hc)
    have := go (b := E.blk id) (p := 0) (fun j y hj => by
      obtain ⟨v, hv, ho, hr⟩ := hcs j y hj
      exact ⟨v, by rw [Nat.zero_add, cell_of_heap hcur, hv], ho, hr⟩) h
    simpa using this
  | _ => simp [loadV] at h

theorem loadSV_some {lo : List (Nat × List AV)} {hp : List AO} {s : Option Nat} {n : Nat} {ag : Bool} {v r : AV} (h : loadSV lo s n ag v = some r) : loadV lo hp n ag v = some r := by
  cases v with
  | loc s' o =>
    cases s with
    | none => simp [loadSV] at h
    | some k =>
      simp only [loadSV] at h
      cases hk : (k == s') with
      | true => rw [hk] at h; exact h
      | false => rw [hk] at h; simp [sel] at h
  | el cs o =>
    cases s with
    | none => exact h
    | some k => simp [loadSV] at h
  | _ => simp [loadSV] at h

theorem fieldsOk_get : ∀ {fs : List Field} {l : List (Nat × Nat)}, fieldsOk P fs l = true → ∀ {f : Nat} {o n : Nat}, l[f]? = some (o, n) → ∃ fd i, fs[f]? = some fd ∧ fd.offset = o ∧ P.info? fd.type = some i ∧ i.size = n
  | [], [], _, f, o, n, hl => by simp at hl
  | fd :: fs, (o', n') :: l, h, f, o, n, hl => by
    simp only [fieldsOk, Bool.and_eq_true, beq_iff_eq] at h
    obtain ⟨⟨h1, h2⟩, h3⟩ := h
    cases f with
    | zero =>
      simp at hl
      obtain ⟨rfl, rfl⟩ := hl
      cases hi : P.info? fd.type with
      | none => rw [hi] at h2; cases h2
      | some i => rw [hi] at h2; exact ⟨fd, i, rfl, h1, hi, by simpa using h2⟩
    | succ f => simp at hl; simpa using fieldsOk_get h3 hl
  | [], _ :: _, h, _, _, _, _ => by cases h
  | _ :: _, [], h, _, _, _, _ => by cases h

theorem udSt_some {t : Nat} {fs : List (Nat × Nat)} (hT : ttOk P TT = true) (h : udSt (lk TT t) = some fs) : ∃ fields, P.underlying t = some (.struct fields) ∧ fieldsOk P fields.toList fs = true := by
  cases hl : lk TT t with
  | none => rw [hl] at h; cases h
  | some ti =>
    rw [hl] at h
    obtain ⟨i, d, z, hi, hd, _, _, _, _, _, hu⟩ := ti_facts (lk_ok hT hl)
    obtain ⟨sz, by_, ag, und, zero⟩ := ti
    cases und <;> simp only [udSt, Option.some.injEq, reduceCtorEq] at h
    all_goals
      subst h
      cases d <;> simp only [udOk, Bool.false_eq_true] at hu
      exact ⟨_, hd, hu⟩

theorem slOk_some {t e : Nat} (hT : ttOk P TT = true) (h : slOk TT t e = true) : ∃ te i z, P.underlying t = some (.slice te) ∧ P.info? te = some i ∧ i.size = e ∧ 0 < e ∧ i.bytes ≤ 4096 ∧ i.zero = some z ∧ z.cells.size = e ∧
    (∃ ti, udSl (lk TT t) = some te ∧ lk TT te = some ti ∧ zrelL ti.zero z.cells.toList = true) := by
  unfold slOk at h
  cases hl : lk TT t with
  | none => rw [hl] at h; cases h
  | some ti =>
    rw [hl] at h
    obtain ⟨i, d, z, hi, hd, _, _, _, _, _, hu⟩ := ti_facts (lk_ok hT hl)
    obtain ⟨sz, by_, ag, und, zero⟩ := ti
    cases und with
    | sl te =>
      simp only [udSl] at h
      cases hte : lk TT te with
      | none => rw [hte] at h; cases h
      | some tj =>
        rw [hte] at h
        simp only [Bool.and_eq_true, beq_iff_eq, decide_eq_true_eq] at h
        obtain ⟨j, dj, zj, hij, _, hsz, hby, hz, hzr, _, _⟩ := ti_facts (lk_ok hT hte)
        cases d <;> simp [udOk] at hu
        subst hu
        have hlz := (zrelL_rv (E := ⟨[], id, id, id, fun _ => False, default⟩) hzr).1
        exact ⟨_, j, zj, hd, hij, by omega, h.1.1.2, by omega, hz, by rw [← Array.length_toList, hlz]; exact h.2, tj, rfl, hte, hzr⟩
    | _ => simp [udSl] at h

theorem udIs_some {t : Nat} {p : UD → Bool} (hT : ttOk P TT = true) (h : udIs TT t p = true) : ∃ d u, P.underlying t = some d ∧ udOk P d u = true ∧ p u = true := by
  unfold udIs at h
  cases hl : lk TT t with
  | none => rw [hl] at h; cases h
  | some ti =>
    rw [hl] at h
    obtain ⟨i, d, z, hi, hd, _, _, _, _, _, hu⟩ := ti_facts (lk_ok hT hl)
    exact ⟨d, _, hd, hu, h⟩

theorem fadd_run {d : Nat} {v r : AV} {x : Value} {t f n : Nat} {fs : List (Nat × Nat)} (hT : ttOk P TT = true) (hf : udSt (lk TT t) = some fs) (hfi : fs[f]? = some (d, n)) (hn : n ≠ 0) (hx : RT E lb v x) (h : faddV d v = some r) :
    ∃ y, (Instr.fieldAt t x f).run P E.w = .ok y E.w ∧ RT E lb r y := by
  obtain ⟨fields, hu, hfo⟩ := udSt_some hT hf
  obtain ⟨fd, i, hfd, ho, hi, hs⟩ := fieldsOk_get hfo hfi
  have hfa : fields[f]? = some fd := by simpa using hfd
  have hrun : ∀ b p : Nat, (Instr.fieldAt t (.pointer (some ⟨b, p, none⟩)) f).run P E.w = .ok (.pointer (some ⟨b, p + d, none⟩)) E.w := by
    intro b p
    have hsn : i.size ≠ 0 := by omega
    simp [Instr.fieldAt, run_underlying hu, hfa, Instr.sureAddr, fieldPlace, sizeOf, typeInfo, hi, hsn, Addr.add_lit, ho]
  cases v with
  | loc s o =>
    simp only [faddV, Option.some.injEq] at h
    have hx : x = .pointer (some ⟨lb s, o, none⟩) := hx
    subst hx; subst h
    exact ⟨_, hrun _ _, rfl⟩
  | el cs o =>
    simp only [faddV, Option.some.injEq] at h
    obtain ⟨b, p, rfl, hs, hc⟩ := (show ElAt E cs o x from hx)
    subst h
    exact ⟨_, hrun _ _, b, p, by rw [Nat.add_assoc], hs, hc⟩
  | ptr id o =>
    simp only [faddV, Option.some.injEq] at h
    have hx : RV E (.ptr id o) x := hx
    subst h
    cases hx with
    | ptr hid => exact ⟨_, hrun _ _, RV.ptr hid⟩
  | _ => simp [faddV] at h

theorem ixa_run {e : Nat} {v u r : AV} {x y : Value} {t : Nat} (hT : ttOk P TT = true) (hs : slOk TT t e = true) (hx : RT E lb v x) (hy : RT E lb u y) (h : ixaV e v u = some r) :
    ∃ z, (Instr.indexAt t x y).run P E.w = .ok z E.w ∧ RT E lb r z := by
  obtain ⟨te, i, z, hu, hi, hsz, _, _, _, _, _⟩ := slOk_some hT hs
  have hrun : ∀ (b p len cap : Nat) (k : IntKind) (n : Int), 0 ≤ n → n.toNat < len → (Instr.indexAt t (.slice (some ⟨b, p, none⟩) len cap) (.int k n)).run P E.w = .ok (.pointer (some ⟨b, p + n.toNat * e, none⟩)) E.w := by
    intro b p len cap k n h0 hlt
    have hlt2 : n < (len : Int) := by omega
    simp [Instr.indexAt, asIntOf, run_underlying hu, h0, hlt2, sizeOf, typeInfo, hi, hsz, Addr.add_lit]
  cases v with
  | sl tk e' xs =>
    cases u with
    | int k n =>
      simp only [ixaV] at h
      split at h
      · rename_i hc
        obtain ⟨rfl, h0⟩ := hc
        simp only [Option.map_eq_some_iff] at h
        obtain ⟨x0, hx0, rfl⟩ := h
        have hlt := lt_of_get hx0
        have hy := rt_int hy
        subst hy
        have hx : RV E (.sl tk e xs) x := hx
        cases hx with
        | nil h => simp at hx0
        | sl cv hlen hcap hsz' hcell hone hrel hst ht =>
          rename_i b off cap
          refine ⟨_, hrun _ _ _ _ _ _ h0 hlt, b, off + n.toNat * e, rfl, ?_, fun j y hj => ?_⟩
          · have he := hsz' x0 (List.mem_of_getElem? hx0)
            have hmul : n.toNat * e + e ≤ xs.length * e := by
              have : (n.toNat + 1) * e ≤ xs.length * e := Nat.mul_le_mul_right e hlt
              rw [Nat.add_mul, Nat.one_mul] at this
              exact this
            exact hst.sub (by omega) (by omega)
          · have he := hsz' x0 (List.mem_of_getElem? hx0)
            have hjl := lt_of_get hj
            have hmul : n.toNat * e + e ≤ xs.length * e := by
              have : (n.toNat + 1) * e ≤ xs.length * e := Nat.mul_le_mul_right e hlt
              rw [Nat.add_mul, Nat.one_mul] at this
              exact this
            exact ⟨cv (n.toNat * e + j), by rw [Nat.add_assoc]; exact hcell _ (by omega), hone _ (by omega), hrel _ _ _ _ hx0 hj⟩
      · cases h
    | _ => simp [ixaV] at h
  | arr id e' off len =>
    cases u with
    | int k n =>
      simp only [ixaV] at h
      split at h
      · rename_i hc
        obtain ⟨rfl, h0, hlt⟩ := hc
        cases h
        have hy := rt_int hy
        subst hy
        have hx : RV E (.arr id e off len) x := hx
        cases hx with
        | arr hid hlen hcap hs => exact ⟨_, hrun _ _ _ _ _ _ h0 hlt, RV.ptr hid⟩
      · cases h
    | _ => simp [ixaV] at h
  | _ => cases u <;> simp [ixaV] at h

theorem ixs_run {v u r : AV} {x y : Value} {t : Nat} (hT : ttOk P TT = true) (hs : udIs TT t isStr = true) (hx : RT E lb v x) (hy : RT E lb u y) (h : ixsV v u = some r) :
    ∃ z, (Instr.index t x y).run P E.w = .ok z E.w ∧ RT E lb r z := by
  obtain ⟨d, ud, hd, hu, hp⟩ := udIs_some hT hs
  have hd2 : P.underlying t = some .string := by
    cases ud <;> simp [isStr] at hp
    cases d <;> simp [udOk] at hu
    exact hd
  cases v with
  | str s =>
    cases u with
    | int k n =>
      simp only [ixsV] at h
      split at h
      · rename_i h0
        simp only [Option.map_eq_some_iff] at h
        obtain ⟨c, hc, rfl⟩ := h
        obtain ⟨b, rfl, rfl⟩ := rt_str hx
        have hy := rt_int hy
        subst hy
        rw [List.getElem?_map, Option.map_eq_some_iff] at hc
        obtain ⟨w8, hw8, rfl⟩ := hc
        have hg : b[n.toNat]? = some w8 := by
          have hlt := lt_of_get hw8
          have hlt2 : n.toNat < b.size := by have h2 := hlt; rw [Array.length_toList] at h2; exact h2
          rw [getElem?_pos b n.toNat hlt2]
          rw [List.getElem?_eq_getElem hlt] at hw8
          cases hw8
          rfl
        refine ⟨.int .u8 (w8.toNat : Int), ?_, RV.int⟩
        unfold Instr.index asIntOf
        rw [Sem.run_bind, Sem.run_pure, Result.andThen_ok, Sem.run_bind, run_underlying hd2, Result.andThen_ok]
        dsimp only
        rw [if_pos h0, hg]
        rfl
      · cases h
    | _ => simp [ixsV] at h
  | _ => cases u <;> simp [ixsV] at h
end
end Go.Proofs.Ytnldohnfdeineaa.Abs
/- The abstract machine and the given one: more operations that write nothing. -/
namespace Go.Proofs.Ytnldohnfdeineaa.Abs
open Go

variable {P : Program} {TT : List (Nat × TI)} {E : Env} {lb : Nat → Nat} {tm : List (Nat × AV)} {a : Act}

theorem map_toNat_inj {a b : List UInt8} (h : a.map UInt8.toNat = b.map UInt8.toNat) : a = b := by
  induction a generalizing b with
  | nil => cases b <;> simp_all
  | cons x l ih =>
    cases b with
    | nil => simp at h
    | cons y r =>
      simp only [List.map_cons, List.cons.injEq] at h
      rw [UInt8.toNat_inj.1 h.1, ih h.2]
theorem bytes_list_eq (b : ByteArray) : b.toList = b.data.toList := by
  exact ByteArray.toList_eq b

theorem beq_dec {x y : Int} : (x == y) = decide (x = y) := by by_cases h : x = y <;> simp [h]
theorem bne_dec {x y : Int} : (x != y) = decide (x ≠ y) := by by_cases h : x = y <;> simp [h]
theorem shBin_run {op : BinOp} {k j : IntKind} {x y : Int} {r : AV} (h : shBin op k x y = some r) : ∃ z, (binOp op 0 (.int k x) (.int j y)).run P E.w = .ok z E.w ∧ RV E r z := by
  cases op <;> simp only [shBin, reduceCtorEq] at h <;> split at h <;> first | cases h | skip
  · rename_i hy; exact ⟨_, by simp [binOp, Op.shift, hy], .int⟩
  · rename_i hy; exact ⟨_, by simp [binOp, Op.shift, hy], .int⟩
theorem intBin_run {op : BinOp} {k : IntKind} {x y : Int} {r : AV} (h : intBin op k x y = some r) : ∃ z, (binOp op 0 (.int k x) (.int k y)).run P E.w = .ok z E.w ∧ RV E r z := by
  cases op <;> simp only [intBin, reduceCtorEq, Option.some.injEq] at h
  case add => subst h; exact ⟨_, by simp [binOp, Op.intArith], .int⟩
  case sub => subst h; exact ⟨_, by simp [binOp, Op.intArith], .int⟩
  case mul => subst h; exact ⟨_, by simp [binOp, Op.intArith], .int⟩
  case shl => exact shBin_run h
  case shr => exact shBin_run h
  case and => subst h; exact ⟨_, by simp [binOp, Op.intBits, bitA], .int⟩
  case or => subst h; exact ⟨_, by simp [binOp, Op.intBits, bitO], .int⟩
  case quo =>
    split at h
    · cases h
    · rename_i h0; cases h; exact ⟨_, by simp [binOp, Op.intDiv, h0], .int⟩
  case rem =>
    split at h
    · cases h
    · rename_i h0; cases h; exact ⟨_, by simp [binOp, Op.intDiv, h0], .int⟩
  all_goals subst h
  case eql => exact ⟨.bool (x == y), by simp [binOp, Op.intCmp], by rw [beq_dec]; exact .bool⟩
  case neq => exact ⟨.bool (x != y), by simp [binOp, Op.intCmp], by rw [bne_dec]; exact .bool⟩
  case lss => exact ⟨.bool (decide (x < y)), by simp [binOp, Op.intCmp], .bool⟩
  case leq => exact ⟨.bool (decide (x ≤ y)), by simp [binOp, Op.intCmp], .bool⟩
  case gtr => exact ⟨.bool (decide (y < x)), by simp [binOp, Op.intCmp], .bool⟩
  case geq => exact ⟨.bool (decide (y ≤ x)), by simp [binOp, Op.intCmp], .bool⟩

theorem bin_type {op : BinOp} {t u : Nat} {k j : IntKind} {x y : Int} : binOp op t (.int k x) (.int j y) = binOp op u (.int k x) (.int j y) := by
  cases op <;> rfl

theorem strBin_run {op : BinOp} {t : Nat} {x y : ByteArray} {r : AV} (h : strBin op (x.data.toList.map UInt8.toNat) (y.data.toList.map UInt8.toNat) = some r) : ∃ z, (binOp op t (.string x) (.string y)).run P E.w = .ok z E.w ∧ RV E r z := by
  have hb : binOp op t (.string x) (.string y) = Op.stringOp op x y := by cases op <;> rfl
  rw [hb]
  have heq : (x.toList == y.toList) = decide (x.data.toList.map UInt8.toNat = y.data.toList.map UInt8.toNat) := by
    rw [bytes_list_eq, bytes_list_eq]
    by_cases he : x.data.toList = y.data.toList
    · simp [he]
    · have : ¬ x.data.toList.map UInt8.toNat = y.data.toList.map UInt8.toNat := fun h => he (map_toNat_inj h)
      rw [decide_eq_false this, beq_eq_false_iff_ne]; exact he
  cases op <;> simp only [strBin, reduceCtorEq] at h
  case add =>
    split at h
    · rename_i hl
      cases h
      simp only [List.length_map, Array.length_toList] at hl
      have hl2 : ¬ (((x.size + y.size : Nat) : Int) > IntKind.i64.max) := by
        have e1 : x.size = x.data.size := rfl
        have e2 : y.size = y.data.size := rfl
        simp only [show IntKind.i64.max = 9223372036854775807 from rfl]
        omega
      refine ⟨.string (x ++ y), ?_, .str ?_⟩
      · unfold Op.stringOp
        dsimp only
        rw [if_neg hl2]
        rfl
      · rw [← List.map_append, ByteArray.data_append, Array.toList_append]
    · cases h
  case eql =>
    cases h
    exact ⟨.bool (x.toList == y.toList), by simp [Op.stringOp], by rw [heq]; exact .bool⟩
  case neq =>
    cases h
    exact ⟨.bool (!(x.toList == y.toList)), by simp [Op.stringOp], by rw [heq, ← decide_not]; exact .bool⟩

theorem eqGuard_int {op : BinOp} {t : Nat} {x y : Operand} {k n} {v : Value} : eqGuard op t x y (.int k n) v = pure () := by cases op <;> rfl
theorem eqGuard_str {op : BinOp} {t : Nat} {x y : Operand} {k} {v : Value} : eqGuard op t x y (.string k) v = pure () := by cases op <;> rfl
theorem eqGuard_bool {op : BinOp} {t : Nat} {x y : Operand} {k} {v : Value} : eqGuard op t x y (.bool k) v = pure () := by cases op <;> rfl

theorem bin_run {op : BinOp} {v u r : AV} {x y : Value} {t : Nat} {p q : Operand} (hx : RT E lb v x) (hy : RT E lb u y) (h : abin op v u = some r) :
    ∃ z, ((do eqGuard op t p q x y; binOp op t x y) : Sem Value).run P E.w = .ok z E.w ∧ RV E r z := by
  cases v with
  | int k n =>
    cases u with
    | int k' n' =>
      simp only [abin] at h
      split at h
      · rename_i hk
        subst hk
        have hx := rt_int hx
        have hy := rt_int hy
        subst hx; subst hy
        rw [eqGuard_int, bin_type (u := 0)]
        exact intBin_run h
      · have hx := rt_int hx
        have hy := rt_int hy
        subst hx; subst hy
        rw [eqGuard_int, bin_type (u := 0)]
        exact shBin_run h
    | _ => simp [abin] at h
  | str s =>
    cases u with
    | str s' =>
      simp only [abin] at h
      obtain ⟨b, rfl, rfl⟩ := rt_str hx
      obtain ⟨b', rfl, rfl⟩ := rt_str hy
      rw [eqGuard_str]
      exact strBin_run h
    | _ => simp [abin] at h
  | _ => simp [abin] at h

theorem beq_run {ne : Bool} {op : BinOp} {v u r : AV} {x y : Value} {t : Nat} {p q : Operand} (hT : ttOk P TT = true) (ho : (match op, ne with | .eql, false => true | .neq, true => true | _, _ => false) = true) (hs : udIs TT t isBool = true) (hx : RT E lb v x) (hy : RT E lb u y) (h : beqV ne v u = some r) :
    ∃ z, ((do eqGuard op t p q x y; binOp op t x y) : Sem Value).run P E.w = .ok z E.w ∧ RV E r z := by
  cases v with
  | bool b =>
    cases u with
    | bool b' =>
      simp only [beqV, Option.some.injEq] at h
      subst h
      have hx := rt_bool hx
      have hy := rt_bool hy
      subst hx; subst hy
      rw [eqGuard_bool]
      obtain ⟨d, ud, hd, hu, hp⟩ := udIs_some hT hs
      have hd2 : P.underlying t = some .bool := by
        cases ud <;> simp [isBool] at hp
        cases d <;> simp [udOk] at hu
        exact hd
      cases op <;> cases ne <;> simp at ho
      · refine ⟨.bool (b == b'), ?_, ?_⟩
        · rw [Sem.run_bind, Sem.run_pure, Result.andThen_ok]
          show ((do pure (.bool (← Op.equal t (.bool b) (.bool b')))) : Sem Value).run P E.w = _
          rw [Sem.run_bind, run_equal_bool E.w t b b' hd2]
          rfl
        · rw [show (false != (b == b')) = (b == b') by simp]; exact .bool
      · refine ⟨.bool (!(b == b')), ?_, ?_⟩
        · rw [Sem.run_bind, Sem.run_pure, Result.andThen_ok]
          show ((do pure (.bool (!(← Op.equal t (.bool b) (.bool b'))))) : Sem Value).run P E.w = _
          rw [Sem.run_bind, run_equal_bool E.w t b b' hd2]
          rfl
        · rw [show (true != (b == b')) = (!(b == b')) by simp]; exact .bool
    | _ => simp [beqV] at h
  | _ => simp [beqV] at h

theorem run_part_int {cs : Array Value} {t off : Nat} {k : IntKind} {v : Value} {w : World} (h : P.underlying t = some (.int k)) (hv : cs[off]? = some v) : (part t cs off).run P w = .ok v w := by
  simp [part, isAgg, run_underlying h, hv]
theorem rt_pair {a b : Int} {x : Value} (h : RT E lb (.agg [.int .i64 a, .int .i64 b]) x) : x = .agg #[.int .i64 a, .int .i64 b] := by
  have h0 : RV E (.agg [.int .i64 a, .int .i64 b]) x := h
  cases h0 with
  | agg hl h1 hh =>
    rename_i vs
    have key : ∀ l : List Value, l.length = 2 → (∀ (j : Nat) (y : AV) (v : Value), [AV.int .i64 a, AV.int .i64 b][j]? = some y → l[j]? = some v → RV E y v) → l = [.int .i64 a, .int .i64 b] := by
      intro l hl hh
      match l, hl with
      | [v, u], _ => rw [rv_int (hh 0 _ _ rfl rfl), rv_int (hh 1 _ _ rfl rfl)]
    rw [key _ hl hh]
theorem pr_some {t : Nat} (hT : ttOk P TT = true) (h : udIs TT t isPr = true) : ∃ fs : Array Field, ∃ f g : Field, ∃ k k' : IntKind, P.underlying t = some (.struct fs) ∧ fs.toList = [f, g] ∧ f.name ≠ "_" ∧ g.name ≠ "_" ∧ f.offset = 0 ∧ g.offset = 1 ∧ P.underlying f.type = some (.int k) ∧ P.underlying g.type = some (.int k') ∧ P.stoodInHeld t = false ∧ P.eqGuardType P.depth t = false := by
  unfold udIs at h
  cases hl : lk TT t with
  | none => rw [hl] at h; cases h
  | some ti =>
    rw [hl] at h
    simp only at h
    have hp := ti_pr (lk_ok hT hl)
    obtain ⟨i, d, z, hi, hd, _, _, _, _, _, hu⟩ := ti_facts (lk_ok hT hl)
    cases hud : ti.und <;> rw [hud] at h <;> simp only [isPr, Bool.false_eq_true] at h
    rw [hud] at hp hu
    cases d <;> simp only [udOk, Bool.false_eq_true] at hu
    rename_i fs _
    simp only [prOk, hd, Bool.and_eq_true, Bool.not_eq_true'] at hp
    obtain ⟨⟨h1, h2⟩, h3⟩ := hp
    generalize hfs : fs.toList = l at hu h3
    match l, hu, h3 with
    | [], hu, _ => cases hu
    | [_], hu, _ => simp [fieldsOk] at hu
    | _ :: _ :: _ :: _, hu, _ => simp [fieldsOk] at hu
    | [f, g], hu, h3 =>
      simp only [fieldsOk, Bool.and_eq_true, beq_iff_eq] at hu
      simp only [List.all_cons, List.all_nil, Bool.and_eq_true, bne_iff_ne] at h3
      obtain ⟨⟨n1, t1⟩, ⟨n2, t2⟩, _⟩ := h3
      cases hf : P.underlying f.type with
      | none => rw [hf] at t1; cases t1
      | some df =>
        cases hg : P.underlying g.type with
        | none => rw [hg] at t2; cases t2
        | some dg =>
          rw [hf] at t1
          rw [hg] at t2
          cases df <;> simp only [Bool.false_eq_true] at t1
          cases dg <;> simp only [Bool.false_eq_true] at t2
          exact ⟨fs, f, g, _, _, hd, hfs, n1, n2, hu.1.1, hu.2.1.1, hf, hg, h1, h2⟩
theorem beqP_run {ne : Bool} {op : BinOp} {v u r : AV} {x y : Value} {t : Nat} {p q : Operand} (hT : ttOk P TT = true) (ho : (match op, ne with | .eql, false => true | .neq, true => true | _, _ => false) = true) (hs : udIs TT t isPr = true) (hx : RT E lb v x) (hy : RT E lb u y) (h : beqP ne v u = some r) :
    ∃ z, ((do eqGuard op t p q x y; binOp op t x y) : Sem Value).run P E.w = .ok z E.w ∧ RV E r z := by
  unfold beqP at h
  split at h
  · rename_i a b c d
    cases h
    have hx := rt_pair hx
    have hy := rt_pair hy
    subst hx; subst hy
    obtain ⟨fs, f, g, k, k', hu, hfs, n1, n2, o1, o2, hf, hg, hst, hgd⟩ := pr_some hT hs
    have hfo : P.fieldsOf t = fs := by simp [Program.fieldsOf, hu]
    have heq : (Op.equalIn 10000 t (.agg #[.int .i64 a, .int .i64 b]) (.agg #[.int .i64 c, .int .i64 d])).run P E.w = .ok (a == c && b == d) E.w := by
      rw [run_equalIn_agg E.w 9999 t _ _ (by rw [hfo]; exact hu) hst, hfo, hfs]
      simp only [Op.eqFields, n1, n2, o1, o2, ne_eq, not_false_eq_true, if_true]
      rw [Sem.run_bind, run_part_int hf (v := .int .i64 a) rfl, Result.andThen_ok, Sem.run_bind, run_part_int hf (v := .int .i64 c) rfl, Result.andThen_ok, Sem.run_bind, run_equalIn_int E.w 9998 _ _ _ _ _ hf, Result.andThen_ok]
      cases hac : a == c
      · rfl
      · simp only [Bool.not_true, Bool.false_eq_true, if_false, Bool.true_and]
        rw [Sem.run_bind, run_part_int hg (v := .int .i64 b) rfl, Result.andThen_ok, Sem.run_bind, run_part_int hg (v := .int .i64 d) rfl, Result.andThen_ok, Sem.run_bind, run_equalIn_int E.w 9998 _ _ _ _ _ hg, Result.andThen_ok]
        cases hbd : b == d <;> rfl
    cases op <;> cases ne <;> simp at ho
    · refine ⟨.bool (a == c && b == d), ?_, ?_⟩
      · rw [Sem.run_bind, run_eqGuard_agg E.w _ _ _ _ _ _ hgd, Result.andThen_ok, run_eql_struct, heq]; rfl
      · rw [show (false != (a == c && b == d)) = (a == c && b == d) by simp]; exact .bool
    · refine ⟨.bool (!(a == c && b == d)), ?_, ?_⟩
      · rw [Sem.run_bind, run_eqGuard_agg E.w _ _ _ _ _ _ hgd, Result.andThen_ok, run_neq_struct, heq]; rfl
      · rw [show (true != (a == c && b == d)) = (!(a == c && b == d)) by simp]; exact .bool
  · cases h
theorem beqW_run {pr ne : Bool} {op : BinOp} {v u r : AV} {x y : Value} {t : Nat} {p q : Operand} (hT : ttOk P TT = true) (ho : (match op, ne with | .eql, false => true | .neq, true => true | _, _ => false) = true) (hs : udIs TT t (match pr with | true => isPr | false => isBool) = true) (hx : RT E lb v x) (hy : RT E lb u y) (h : beqW pr ne v u = some r) :
    ∃ z, ((do eqGuard op t p q x y; binOp op t x y) : Sem Value).run P E.w = .ok z E.w ∧ RV E r z := by
  cases pr with
  | true => exact beqP_run hT ho hs hx hy h
  | false => exact beq_run hT ho hs hx hy h

theorem un_run {op : UnOp} {v r : AV} {x : Value} (hx : RT E lb v x) (h : aun op v = some r) : ∃ z, (Op.unary op x).run P E.w = .ok z E.w ∧ RV E r z := by
  cases v with
  | bool b =>
    have hx := rt_bool hx
    subst hx
    cases op <;> simp [aun] at h
    subst h
    exact ⟨_, rfl, .bool⟩
  | int k n =>
    have hx := rt_int hx
    subst hx
    cases op <;> simp [aun] at h
    subst h
    exact ⟨.int k (k.wrap (0 - n)), rfl, by rw [Int.zero_sub]; exact .int⟩
  | _ => simp [aun] at h

theorem isInt_desc {t : Nat} (hT : ttOk P TT = true) (h : udIs TT t isInt = true) : ∃ k, P.underlying t = some (.int k) := by
  obtain ⟨d, ud, hd, hu, hp⟩ := udIs_some hT h
  cases ud <;> simp [isInt] at hp
  cases d <;> simp [udOk] at hu
  exact ⟨_, hd⟩
theorem isKind_desc {t : Nat} {k : IntKind} (hT : ttOk P TT = true) (h : udIs TT t (isKind k) = true) : P.underlying t = some (.int k) := by
  obtain ⟨d, ud, hd, hu, hp⟩ := udIs_some hT h
  cases ud <;> simp [isKind] at hp
  cases d <;> simp [udOk] at hu
  rw [hd, hu, hp]
theorem conv_run {k : IntKind} {v r : AV} {x : Value} {s d : Nat} (hT : ttOk P TT = true) (hs : udIs TT s isInt = true) (hd : udIs TT d (isKind k) = true) (hx : RT E lb v x) (h : convV k v = some r) :
    ∃ z, (convert s d x).run P E.w = .ok z E.w ∧ RV E r z := by
  obtain ⟨j, hj⟩ := isInt_desc hT hs
  have hk := isKind_desc hT hd
  cases v with
  | int i n =>
    simp only [convV, Option.some.injEq] at h
    subst h
    have hx := rt_int hx
    subst hx
    exact ⟨.int k (k.wrap n), by simp [convert, run_underlying hj, run_underlying hk, Conv.intToInt], .int⟩
  | _ => simp [convV] at h

theorem len_run {b : Bool} {v r : AV} {x : Value} {t : Nat} {ty : Nat} (hT : ttOk P TT = true) (hs : udIs TT t (isLen b) = true) (hx : RT E lb v x) (h : lenV b v = some r) :
    ∃ z, (Builtin.len_ #[t] ty #[x]).run P E.w = .ok z E.w ∧ RV E r z := by
  obtain ⟨d, ud, hd, hu, hp⟩ := udIs_some hT hs
  cases b with
  | true =>
    cases v with
    | str s =>
      simp only [lenV, Option.some.injEq] at h
      subst h
      obtain ⟨b, rfl, rfl⟩ := rt_str hx
      have hd2 : P.underlying t = some .string := by
        cases ud <;> simp [isLen] at hp
        cases d <;> simp [udOk] at hu
        exact hd
      refine ⟨.int .i64 b.size, by simp [Builtin.len_, run_underlying hd2, goInt], ?_⟩
      rw [List.length_map, Array.length_toList]
      exact .int
    | _ => simp [lenV] at h
  | false =>
    have hd2 : ∃ e, P.underlying t = some (.slice e) := by
      cases ud <;> simp [isLen] at hp
      cases d <;> simp [udOk] at hu
      exact ⟨_, hd⟩
    obtain ⟨e, hd2⟩ := hd2
    have hrun : ∀ (A : Option Addr) (n c : Nat), (Builtin.len_ #[t] ty #[.slice A n c]).run P E.w = .ok (.int .i64 n) E.w := by
      intro A n c
      simp [Builtin.len_, run_underlying hd2, goInt]
    cases v with
    | sl tk e xs =>
      simp only [lenV, Option.some.injEq] at h
      subst h
      have hx : RV E (.sl tk e xs) x := hx
      cases hx with
      | nil h => exact ⟨_, hrun _ _ _, .int⟩
      | sl cv hlen hcap hsz hcell hone hrel hst ht => exact ⟨_, hrun _ _ _, .int⟩
    | arr id e o n =>
      simp only [lenV, Option.some.injEq] at h
      subst h
      have hx : RV E (.arr id e o n) x := hx
      cases hx with
      | arr hid hlen hcap hs => exact ⟨_, hrun _ _ _, .int⟩
    | _ => simp [lenV] at h

/-- A bound. -/
theorem bnd_run {x : Option AR} {y : Option Operand} {d l : Nat} (ht : TR E lb tm a.tmps) (ho : oopdOk x y = true) (h : bnd tm d x = some l) :
    (y.map a.eval = none ∧ l = d) ∨ (∃ k, y.map a.eval = some (.int k (l : Int))) := by
  cases x with
  | none =>
    cases y with
    | none => simp [bnd] at h; exact .inl ⟨rfl, h.symm⟩
    | some y => simp [oopdOk] at ho
  | some x =>
    cases y with
    | none => simp [oopdOk] at ho
    | some y =>
      simp only [oopdOk] at ho
      have hr := opd_rt (a := a) ht ho
      simp only [bnd] at h
      cases hv : x.ev tm with
      | int k n =>
        rw [hv] at h hr
        simp only at h
        split at h
        · rename_i h0
          cases h
          refine .inr ⟨k, ?_⟩
          rw [Option.map_some, rt_int hr, Int.toNat_of_nonneg h0]
        · cases h
      | _ => rw [hv] at h; simp at h

theorem sliceBounds_run {isS : Bool} {len cap l h : Nat} {lo hi : Option Value} (hl : (lo = none ∧ l = 0) ∨ (∃ k, lo = some (.int k (l : Int)))) (hh : (hi = none ∧ h = len) ∨ (∃ k, hi = some (.int k (h : Int)))) (h1 : l ≤ h) (h2 : h ≤ len) (h3 : len ≤ cap) :
    (Instr.sliceBounds isS len cap lo hi none).run P E.w = .ok (l, h, cap) E.w := by
  have e1 : ∀ k code, (Instr.sliceBound (.int k (h : Int)) cap code).run P E.w = .ok h E.w := fun k code => by
    have := run_sliceBound (P := P) (w := E.w) k (h : Int) cap code (by omega) (by omega)
    simpa using this
  have e2 : ∀ k code, (Instr.sliceBound (.int k (l : Int)) h code).run P E.w = .ok l E.w := fun k code => by
    have := run_sliceBound (P := P) (w := E.w) k (l : Int) h code (by omega) (by omega)
    simpa using this
  rcases hl with ⟨rfl, rfl⟩ | ⟨k, rfl⟩ <;> rcases hh with ⟨rfl, rfl⟩ | ⟨k', rfl⟩ <;> simp [Instr.sliceBounds, e1, e2]

theorem slstr_run {v r : AV} {x : Value} {t : Nat} {lo hi : Option AR} {l h : Option Operand} (hT : ttOk P TT = true) (hs : udIs TT t isStr = true) (ht : TR E lb tm a.tmps) (hx : RT E lb v x) (hl : oopdOk lo l = true) (hh : oopdOk hi h = true)
    (hr : slstrV v (bnd tm 0 lo) (bnd tm (lenN v) hi) = some r) : ∃ z, (Instr.sliceAt t x (l.map a.eval) (h.map a.eval) none).run P E.w = .ok z E.w ∧ RV E r z := by
  obtain ⟨d, ud, hd, hu, hp⟩ := udIs_some hT hs
  have hd2 : P.underlying t = some .string := by
    cases ud <;> simp [isStr] at hp
    cases d <;> simp [udOk] at hu
    exact hd
  cases v with
  | str s =>
    cases hbl : bnd tm 0 lo with
    | none => rw [hbl] at hr; simp [slstrV] at hr
    | some p =>
      cases hbh : bnd tm (lenN (.str s)) hi with
      | none => rw [hbl, hbh] at hr; simp [slstrV] at hr
      | some q =>
        rw [hbl, hbh] at hr
        simp only [slstrV] at hr
        split at hr
        · rename_i hc
          cases hr
          obtain ⟨b, rfl, rfl⟩ := rt_str hx
          have hsz : (b.data.toList.map UInt8.toNat).length = b.size := by rw [List.length_map, Array.length_toList]; rfl
          have hb := sliceBounds_run (P := P) (E := E) (isS := false) (len := b.size) (cap := b.size) (bnd_run ht hl hbl) (by have := bnd_run ht hh hbh; simp only [lenN] at this; rw [hsz] at this; exact this) hc.1 (by omega) (Nat.le_refl _)
          refine ⟨.string (b.extract p q), ?_, .str ?_⟩
          · simp [Instr.sliceAt, Instr.slice, run_underlying hd2, hb]
          · rw [ByteArray.data_extract, Array.toList_extract, List.extract_eq_take_drop, List.map_take, List.map_drop, List.drop_take]
        · cases hr
  | _ => simp [slstrV] at hr

theorem slsl_run {e : Nat} {v r : AV} {x : Value} {t : Nat} {lo hi : Option AR} {l h : Option Operand} (hT : ttOk P TT = true) (hs : slOk TT t e = true) (ht : TR E lb tm a.tmps) (hx : RT E lb v x) (hl : oopdOk lo l = true) (hh : oopdOk hi h = true)
    (hr : slslV e hi.isNone v (bnd tm 0 lo) (bnd tm (lenN v) hi) = some r) : ∃ z, (Instr.sliceAt t x (l.map a.eval) (h.map a.eval) none).run P E.w = .ok z E.w ∧ RV E r z := by
  obtain ⟨te, i, z, hu, hi', hsz, he0, _⟩ := slOk_some hT hs
  have hrun : ∀ (A : Option Addr) (len cap p q : Nat), ((l.map a.eval = none ∧ p = 0) ∨ (∃ k, l.map a.eval = some (.int k (p : Int)))) → ((h.map a.eval = none ∧ q = len) ∨ (∃ k, h.map a.eval = some (.int k (q : Int)))) → p ≤ q → q ≤ len → len ≤ cap →
      (Instr.sliceAt t (.slice A len cap) (l.map a.eval) (h.map a.eval) none).run P E.w = .ok (.slice (if cap = p then A else A.map (·.add (p * e))) (q - p) (cap - p)) E.w := by
    intro A len cap p q h1 h2 h3 h4 h5
    have hb := sliceBounds_run (P := P) (E := E) (isS := true) (len := len) (cap := cap) h1 h2 h3 h4 h5
    simp [Instr.sliceAt, Instr.slice, run_underlying hu, hb, sizeOf, typeInfo, hi', hsz]
  cases v with
  | sl tk e' xs =>
    cases hbl : bnd tm 0 lo with
    | none => rw [hbl] at hr; simp [slslV] at hr
    | some p =>
      cases hbh : bnd tm (lenN (.sl tk e' xs)) hi with
      | none => rw [hbl, hbh] at hr; simp [slslV] at hr
      | some q =>
        rw [hbl, hbh] at hr
        simp only [slslV] at hr
        split at hr
        · rename_i hc
          obtain ⟨rfl, h1, h2⟩ := hc
          cases hr
          have b1 := bnd_run (a := a) ht hl hbl
          have b2 := bnd_run (a := a) ht hh hbh
          simp only [lenN] at b2
          have hx : RV E (.sl tk e xs) x := hx
          cases hx with
          | nil hn =>
            have hq : q = 0 := by simpa using h2
            subst hq
            have hp0 : p = 0 := by omega
            subst hp0
            refine ⟨_, hrun none 0 0 0 0 b1 (by simpa using b2) (Nat.le_refl _) (Nat.le_refl _) (Nat.le_refl _), ?_⟩
            rw [if_pos rfl]
            simp only [List.take_nil, List.drop_nil, Nat.sub_zero]
            refine .nil (fun id => ?_)
            split
            · exact hn id
            · simp
          | sl cv hlen hcap hsz' hcell hone hrel hst htk =>
            rename_i b off cap
            have hl2 : ((xs.take q).drop p).length = q - p := by simp; omega
            have hget : ∀ (i : Nat) (y : AV), ((xs.take q).drop p)[i]? = some y → xs[p + i]? = some y ∧ i < q - p := by
              intro i y hi
              have hlt := lt_of_get hi
              rw [List.getElem?_drop, List.getElem?_take] at hi
              rw [if_pos (by omega)] at hi
              exact ⟨hi, by omega⟩
            have hend : p * e + (q - p) * e ≤ xs.length * e := by
              rw [← Nat.add_mul]; exact Nat.mul_le_mul_right e (by omega)
            by_cases hcp : cap = p
            · subst hcp
              have hq : q = cap := by omega
              subst hq
              refine ⟨_, hrun _ _ _ _ _ b1 b2 h1 h2 hlen, ?_⟩
              rw [if_pos rfl, ← hl2]
              refine .sl cv (by rw [hl2]; exact Nat.le_refl _) (by simp [maxLen]) (fun x hx => ?_) (fun k hk => ?_) (fun k hk => ?_) (fun i x j y hi => ?_) ?_ ?_
              · exact hsz' x (List.mem_of_mem_take (List.mem_of_mem_drop hx))
              · rw [hl2] at hk; simp at hk
              · rw [hl2] at hk; simp at hk
              · have := (hget i x hi).2; omega
              · rw [hl2]; exact hst.sub (Nat.le_refl _) (by simp)
              · rw [hl2]
                split
                · cases tk with
                  | no => trivial
                  | cap0 => exact ⟨by omega, by omega⟩
                  | own id =>
                    refine ⟨htk.1, fun hid => ?_⟩
                    obtain ⟨t1, t2, t3⟩ := htk.2 hid
                    exact ⟨t1, fun hlt => by omega, by simp; omega⟩
                · trivial
            · refine ⟨_, hrun _ _ _ _ _ b1 b2 h1 h2 hlen, ?_⟩
              rw [if_neg hcp, ← hl2]
              simp only [Option.map_some, Addr.add_lit]
              refine .sl (fun k => cv (p * e + k)) (by rw [hl2]; omega) (by omega) (fun x hx => ?_) (fun k hk => ?_) (fun k hk => ?_) (fun i x j y hi hj => ?_) ?_ ?_
              · exact hsz' x (List.mem_of_mem_take (List.mem_of_mem_drop hx))
              · rw [hl2] at hk
                rw [Nat.add_assoc]; exact hcell _ (by omega)
              · rw [hl2] at hk; exact hone _ (by omega)
              · obtain ⟨g1, g2⟩ := hget i x hi
                have := hrel _ _ _ _ g1 hj
                rw [Nat.add_mul, Nat.add_assoc] at this
                exact this
              · rw [hl2]; exact hst.sub (by omega) (by omega)
              · rw [hl2]
                split
                · rename_i hw
                  have hqn : q = xs.length := by
                    cases hi with
                    | none => simp [bnd, lenN] at hbh; omega
                    | some _ => simp at hw
                  cases tk with
                  | no => trivial
                  | cap0 => have := htk.2; omega
                  | own id =>
                    refine ⟨htk.1, fun hid => ?_⟩
                    obtain ⟨t1, t2, t3⟩ := htk.2 hid
                    have e1 : p * e + (q - p) * e = xs.length * e := by rw [← Nat.add_mul]; congr 1; omega
                    have e2 : p * e + (cap - p) * e = cap * e := by rw [← Nat.add_mul]; congr 1; omega
                    exact ⟨t1, fun hlt => by have := t2 (by omega); omega, by omega⟩
                · trivial
        · cases hr
  | arr id e' off n =>
    cases hbl : bnd tm 0 lo with
    | none => rw [hbl] at hr; simp [slslV] at hr
    | some p =>
      cases hbh : bnd tm (lenN (.arr id e' off n)) hi with
      | none => rw [hbl, hbh] at hr; simp [slslV] at hr
      | some q =>
        rw [hbl, hbh] at hr
        simp only [slslV] at hr
        split at hr
        · rename_i hc
          obtain ⟨rfl, h1, h2, h3⟩ := hc
          cases hr
          have b1 := bnd_run (a := a) ht hl hbl
          have b2 := bnd_run (a := a) ht hh hbh
          simp only [lenN] at b2
          have hx : RV E (.arr id e off n) x := hx
          cases hx with
          | arr hid hlen hcap hs =>
            rename_i cap
            refine ⟨_, hrun _ _ _ _ _ b1 b2 h1 h2 hlen, ?_⟩
            by_cases hcp : cap = p
            · have hp0 : p = 0 := by omega
              subst hp0
              rw [if_pos hcp]
              simp only [Nat.zero_mul, Nat.add_zero, Nat.sub_zero]
              exact .arr hid (by omega) hcap hs
            · rw [if_neg hcp]
              simp only [Option.map_some, Addr.add_lit]
              have e2 : p * e + (cap - p) * e = cap * e := by rw [← Nat.add_mul]; congr 1; omega
              exact .arr hid (by omega) (by omega) (by omega)
        · cases hr
  | _ => simp [slslV] at hr
end Go.Proofs.Ytnldohnfdeineaa.Abs
/- The abstract machine and the given one: building values; all operations that write nothing. -/
namespace Go.Proofs.Ytnldohnfdeineaa.Abs
open Go

variable {P : Program} {TT : List (Nat × TI)} {E : Env} {lb : Nat → Nat} {tm : List (Nat × AV)} {a : Act}

theorem upd_spec : ∀ {o : Nat} {vs cs l : List AV}, upd o vs cs = some l → l.length = cs.length ∧ o + vs.length ≤ cs.length ∧ ∀ k, l[k]? = if o ≤ k ∧ k < o + vs.length then vs[k - o]? else cs[k]?
  | 0, [], cs, l, h => by
    simp [upd] at h; subst h
    exact ⟨rfl, by simp, fun k => by simp⟩
  | 0, v :: vs, c :: cs, l, h => by
    simp only [upd, Option.map_eq_some_iff] at h
    obtain ⟨l', h1, rfl⟩ := h
    obtain ⟨h2, h3, h4⟩ := upd_spec h1
    refine ⟨by simp [h2], by simp at h3 ⊢; omega, fun k => ?_⟩
    cases k with
    | zero => simp
    | succ k =>
      have := h4 k
      simp only [Nat.zero_le, Nat.zero_add, true_and, Nat.sub_zero] at this
      simp [this]
  | o + 1, vs, c :: cs, l, h => by
    have h : (upd o vs cs).map (c :: ·) = some l := by cases vs <;> simpa [upd] using h
    simp only [Option.map_eq_some_iff] at h
    obtain ⟨l', h1, rfl⟩ := h
    obtain ⟨h2, h3, h4⟩ := upd_spec h1
    refine ⟨by simp [h2], by simp at h3 ⊢; omega, fun k => ?_⟩
    cases k with
    | zero => simp
    | succ k =>
      have := h4 k
      simp only [List.getElem?_cons_succ, this]
      by_cases hk : o ≤ k ∧ k < o + vs.length
      · rw [if_pos hk, if_pos (by omega)]; congr 1; omega
      · rw [if_neg hk, if_neg (by omega)]
  | 0, v :: vs, [], l, h => by simp [upd] at h
  | o + 1, vs, [], l, h => by cases vs <;> simp [upd] at h

theorem fold_set (off : Nat) : ∀ (vs : List Value) (k0 : Nat) (cells : Array Value), off + k0 + vs.length ≤ cells.size →
    ((vs.zipIdx k0).foldl (fun cs (p : Value × Nat) => cs.setIfInBounds (off + p.2) p.1) cells).size = cells.size ∧
    ∀ k, ((vs.zipIdx k0).foldl (fun cs (p : Value × Nat) => cs.setIfInBounds (off + p.2) p.1) cells)[k]? = if off + k0 ≤ k ∧ k < off + k0 + vs.length then vs[k - (off + k0)]? else cells[k]?
  | [], k0, cells, _ => ⟨rfl, fun k => by simp; omega⟩
  | v :: vs, k0, cells, h => by
    simp only [List.length_cons] at h
    obtain ⟨h1, h2⟩ := fold_set off vs (k0 + 1) (cells.setIfInBounds (off + k0) v) (by simp; omega)
    simp only [List.zipIdx_cons, List.foldl_cons]
    refine ⟨by rw [h1]; simp, fun k => ?_⟩
    rw [h2 k]
    by_cases hk : k = off + k0
    · subst hk
      rw [if_neg (by omega), if_pos (by simp)]
      simp [Array.getElem?_setIfInBounds]
      omega
    · by_cases hk2 : off + (k0 + 1) ≤ k ∧ k < off + (k0 + 1) + vs.length
      · rw [if_pos hk2, if_pos (by simp only [List.length_cons]; omega)]
        rw [show k - (off + k0) = (k - (off + (k0 + 1))) + 1 by omega]
        simp
      · rw [if_neg hk2, if_neg (by simp only [List.length_cons]; omega)]
        rw [Array.getElem?_setIfInBounds_ne (by omega)]

/-- Cells, one by one. -/
def CsR (E : Env) (cs : List AV) (cells : Array Value) : Prop := cells.size = cs.length ∧ ∀ (j : Nat) (y : AV), cs[j]? = some y → ∃ v : Value, cells[j]? = some v ∧ v.oneCell' = true ∧ RV E y v

theorem CsR.upd {o : Nat} {v : AV} {x : Value} {cs l : List AV} {cells : Array Value} (h : CsR E cs cells) (hm : v.mem = true) (hx : RV E v x) (hu : upd o v.cells cs = some l) :
    o + x.cells.size ≤ cells.size ∧ CsR E l (x.cells.zipIdx.foldl (fun cs (p : Value × Nat) => cs.setIfInBounds (o + p.2) p.1) cells) := by
  obtain ⟨h1, h2, h3⟩ := upd_spec hu
  obtain ⟨h4, h5⟩ := rv_cells hx hm
  have hfit : o + 0 + x.cells.toList.length ≤ cells.size := by rw [Array.length_toList, h.1]; omega
  obtain ⟨f1, f2⟩ := fold_set o x.cells.toList 0 cells hfit
  have he : x.cells.zipIdx.foldl (fun cs (p : Value × Nat) => cs.setIfInBounds (o + p.2) p.1) cells = (x.cells.toList.zipIdx 0).foldl (fun cs (p : Value × Nat) => cs.setIfInBounds (o + p.2) p.1) cells := by
    rw [← Array.foldl_toList, Array.toList_zipIdx]
  rw [he]
  refine ⟨by rw [h.1]; omega, by rw [f1, h.1, h1], fun j y hj => ?_⟩
  rw [f2 j]
  rw [h3 j] at hj
  by_cases hc : o ≤ j ∧ j < o + v.cells.length
  · rw [if_pos hc] at hj
    rw [if_pos (by rw [Array.length_toList, h4]; omega)]
    obtain ⟨u, hu1, hu2, hu3⟩ := h5 _ y hj
    exact ⟨u, by simpa using hu1, hu2, hu3⟩
  · rw [if_neg hc] at hj
    rw [if_neg (by rw [Array.length_toList, h4]; omega)]
    exact h.2 j y hj

theorem ifc_some {b : Bool} {x : Option (List AV)} {l : List AV} (h : ifc b x = some l) : b = true ∧ x = some l := by
  cases b
  · cases h
  · exact ⟨rfl, h⟩

theorem lay_run (ht : TR E lb tm a.tmps) {fs : List (Nat × Nat)} {place : Nat → Option (Nat × Nat)} (hpl : ∀ i o n, fs[i]? = some (o, n) → place i = some (o, n)) :
    ∀ {ps : List (Nat × Nat × AR)} {qs : List (Nat × Operand)} {cs l : List AV} {cells : Array Value}, partsOk fs ps qs = true → lay tm cs ps = some l → CsR E cs cells →
      ∃ cells', Instr.fill place cells (qs.map fun p => (p.1, a.eval p.2)) = some cells' ∧ CsR E l cells'
  | [], [], cs, l, cells, _, hl, hc => by simp [lay] at hl; subst hl; exact ⟨cells, rfl, hc⟩
  | (o, n, x) :: ps, (i, y) :: qs, cs, l, cells, hp, hl, hc => by
    simp only [partsOk, Bool.and_eq_true] at hp
    obtain ⟨⟨hp1, hp2⟩, hp3⟩ := hp
    simp only [lay, Option.bind_eq_some_iff] at hl
    obtain ⟨cs1, hi, hl⟩ := hl
    obtain ⟨hok, hu⟩ := ifc_some hi
    simp only [okv, Bool.and_eq_true, beq_iff_eq] at hok
    cases hfi : fs[i]? with
    | none => rw [hfi] at hp1; cases hp1
    | some on =>
      obtain ⟨o', n'⟩ := on
      rw [hfi] at hp1
      simp only [Bool.and_eq_true, beq_iff_eq] at hp1
      obtain ⟨rfl, rfl⟩ := hp1
      have hrv := (opd_rt (a := a) ht hp2).rv hok.1
      obtain ⟨h1, h2⟩ := hc.upd hok.1 hrv hu
      obtain ⟨c', h3, h4⟩ := lay_run ht hpl hp3 hl h2
      refine ⟨c', ?_, h4⟩
      simp only [List.map_cons, Instr.fill, hpl i _ _ hfi]
      have hsz := (rv_cells hrv hok.1).1
      have hno : ((a.eval y).cells.size ≠ n || decide (o + (a.eval y).cells.size > cells.size)) = false := by
        simp only [Bool.or_eq_false_iff, decide_eq_false_iff_not]
        exact ⟨by simp [hsz, hok.2], by omega⟩
      have hno2 : ¬ ((decide ((a.eval y).cells.size ≠ n) || decide (o + (a.eval y).cells.size > cells.size)) = true) := by
        rw [hno]; simp
      rw [if_neg hno2]
      exact h3
  | [], _ :: _, _, _, _, h, _, _ => by cases h
  | _ :: _, [], _, _, _, h, _, _ => by cases h

theorem places_of : ∀ {fields : List Field} {fs : List (Nat × Nat)}, fieldsOk P fields fs = true → fields.mapM (fun f => (P.info? f.type).map fun i => (f.offset, i.size)) = some fs
  | [], [], _ => rfl
  | f :: fields, (o, n) :: fs, h => by
    simp only [fieldsOk, Bool.and_eq_true, beq_iff_eq] at h
    obtain ⟨⟨h1, h2⟩, h3⟩ := h
    have ih := places_of h3
    cases hi : P.info? f.type with
    | none => rw [hi] at h2; cases h2
    | some i =>
      rw [hi] at h2
      have h2 : i.size = n := by simpa using h2
      simp [List.mapM_cons, hi, ih, h1, h2]
  | [], _ :: _, h => by cases h
  | _ :: _, [], h => by cases h

theorem csr_zero {ti : TI} {z : Value} (h : zrelL ti.zero z.cells.toList = true) : CsR E ti.zero z.cells := by
  obtain ⟨h1, h2⟩ := zrelL_rv (E := E) h
  exact ⟨by simpa using h1, fun j y hj => by obtain ⟨v, hv, ho, hr⟩ := h2 j y hj; exact ⟨v, by simpa using hv, ho, hr⟩⟩

theorem CsR.agg {cs : List AV} {cells : Array Value} (h : CsR E cs cells) : RV E (.agg cs) (.agg cells) := by
  have e : cells = cells.toList.toArray := by simp
  rw [e]
  refine .agg (by simpa using h.1) (fun v hv => ?_) (fun j y v hy hv => ?_)
  · obtain ⟨j, hj⟩ := List.mem_iff_getElem?.1 hv
    have hlt := lt_of_get hj
    rw [Array.length_toList, h.1] at hlt
    obtain ⟨u, hu, ho, _⟩ := h.2 j _ (List.getElem?_eq_getElem hlt)
    rw [Array.getElem?_toList, hu] at hj
    cases hj
    exact ho
  · obtain ⟨u, hu, _, hr⟩ := h.2 j y hy
    rw [Array.getElem?_toList, hu] at hv
    cases hv
    exact hr

theorem build_run {z : List AV} {ps : List (Nat × Nat × AR)} {t : Nat} {qs : Array (Nat × Operand)} {ti : TI} {fs : List (Nat × Nat)} {l : List AV} (hT : ttOk P TT = true) (ht : TR E lb tm a.tmps) (hl : lk TT t = some ti) (hz : zeqL z ti.zero = true) (hf : udSt (lk TT t) = some fs)
    (hp : partsOk fs ps qs.toList = true) (h : lay tm z ps = some l) : ∃ x, (Instr.build t (qs.map fun (i, x) => (i, a.eval x))).run P E.w = .ok x E.w ∧ RV E (.agg l) x := by
  obtain ⟨fields, hu, hfo⟩ := udSt_some hT hf
  obtain ⟨i, d, zv, hi, hd, _, _, hzv, hzr, _, _⟩ := ti_facts (lk_ok hT hl)
  rw [zeqL_eq hz] at h
  obtain ⟨cells, h1, h2⟩ := lay_run (a := a) (place := (fs.toArray[·]?)) ht (fun i o n hi => by simpa using hi) hp h (csr_zero hzr)
  refine ⟨.agg cells, run_build E.w t _ cells ?_, h2.agg⟩
  unfold Program.built
  simp only [hi, hu, hzv, places_of hfo]
  rw [← h1]
  congr 1
  simp [Array.toList_map]

theorem ext_run {v r : AV} {x : Value} {i : Nat} (hx : RT E lb v x) (h : extV i v = some r) : ∃ z, (Instr.extract x i).run P E.w = .ok z E.w ∧ RV E r z := by
  cases v with
  | tup vs =>
    simp only [extV, nth_eq, Option.bind_eq_some_iff] at h
    obtain ⟨r', h, hnl⟩ := h
    have hrr : r' = r := nl_some hnl
    subst hrr
    have hx : RV E (.tup vs) x := hx
    cases hx with
    | tup hl hr =>
      rename_i us
      have hlt := lt_of_get h
      rw [← hl] at hlt
      refine ⟨us[i], ?_, hr i r' _ h (List.getElem?_eq_getElem hlt)⟩
      simp [Instr.extract, List.getElem?_eq_getElem hlt]
  | _ => simp [extV] at h

theorem nilck_run {o : Oper} {y : Operand} {v r : AV} (ho : o.op = .nilCheck y) (hx : RT E lb v (a.eval y)) (h : nilckV v = some r) : ∃ z, (execOp a.eval o).run P E.w = .ok (.value z) E.w ∧ RT E lb r z := by
  cases v with
  | ptr id p =>
    simp only [nilckV, Option.some.injEq] at h
    subst h
    have hx2 : RV E (.ptr id p) (a.eval y) := hx
    generalize hy : a.eval y = u at hx2
    cases hx2 with
    | ptr hid => exact ⟨_, by simp [execOp, ho, hy], RV.ptr hid⟩
  | loc s p =>
    simp only [nilckV, Option.some.injEq] at h
    subst h
    have hx2 : a.eval y = .pointer (some ⟨lb s, p, none⟩) := hx
    exact ⟨.pointer (some ⟨lb s, p, none⟩), by simp [execOp, ho, hx2], rfl⟩
  | el cs p =>
    simp only [nilckV, Option.some.injEq] at h
    subst h
    obtain ⟨b, q, hb, hs, hc⟩ := (show ElAt E cs p (a.eval y) from hx)
    exact ⟨.pointer (some ⟨b, q + p, none⟩), by simp [execOp, ho, hb], b, q, rfl, hs, hc⟩
  | _ => simp [nilckV] at h

/-- An operation that writes nothing, all but a slice's literal. -/
def quiet : AOp → Bool
  | .mv _ | .pick .. | .build .. | .load .. | .loadS .. | .fadd .. | .ixa .. | .ixs .. | .bin .. | .beq .. | .un .. | .conv .. | .len .. | .slstr .. | .slsl .. | .ext .. | .mkFn .. | .nilck _ => true
  | _ => false

theorem exec_v {o : Oper} {s : Sem Value} {x : Value} (h : execOp a.eval o = (do pure (.value (← s)))) (hr : s.run P E.w = .ok x E.w) : (execOp a.eval o).run P E.w = .ok (.value x) E.w := by
  rw [h, Sem.run_bind, hr]; rfl

theorem quiet_run {lo : List (Nat × List AV)} {op : AOp} {o : Oper} {r : AV} (hT : ttOk P TT = true) (hw : WR E) (ht : TR E lb tm a.tmps) (hlo : LR E lb lo) (hq : quiet op = true) (ho : okOp TT op o.op = true) (h : pv tm lo E.hp op = some r) :
    ∃ x, (execOp a.eval o).run P E.w = .ok (.value x) E.w ∧ RT E lb r x := by
  obtain ⟨dst, gop, type, pos, after, guard⟩ := o
  dsimp only at ho
  unfold okOp at ho
  split at ho
  case h_1 => -- mv, move
    simp only [pv, Option.some.injEq] at h
    subst h
    exact ⟨_, rfl, opd_rt ht ho⟩
  case h_2 => -- mv, assign
    simp only [pv, Option.some.injEq] at h
    subst h
    exact ⟨_, rfl, opd_rt ht ho⟩
  case h_3 c x y c' x' y' => -- pick
    simp only [Bool.and_eq_true] at ho
    simp only [pv] at h
    have hc := opd_rt (a := a) ht ho.1.1
    cases hv : c.ev tm with
    | bool t =>
      rw [hv] at h hc
      simp only [pickV, Option.some.injEq] at h
      subst h
      have hc := rt_bool hc
      refine ⟨if t = true then a.eval x' else a.eval y', by simp [execOp, hc, asBool], ?_⟩
      cases t
      · exact opd_rt ht ho.2
      · exact opd_rt ht ho.1.2
    | _ => rw [hv] at h; simp [pickV] at h
  case h_8 z ps t qs => -- build
    simp only [Bool.and_eq_true] at ho
    simp only [pv, Option.map_eq_some_iff] at h
    obtain ⟨l, hl, rfl⟩ := h
    cases hlk : lk TT t with
    | none => rw [hlk] at ho; cases ho.1
    | some ti =>
      have h1 := ho.1
      rw [hlk] at h1
      cases hf : udSt (lk TT t) with
      | none => rw [hf] at ho; cases ho.2
      | some fs =>
        have h2 := ho.2
        rw [hf] at h2
        obtain ⟨x, hx, hr⟩ := build_run (E := E) hT ht hlk h1 hf h2 hl
        exact ⟨x, exec_v (s := Instr.build t (qs.map fun (i, x) => (i, a.eval x))) rfl hx, RT.of_rv hr⟩
  case h_10 n ag x t y => -- load
    simp only [Bool.and_eq_true] at ho
    simp only [pv] at h
    cases hlk : lk TT t with
    | none => rw [hlk] at ho; cases ho.1
    | some ti =>
      have h1 := ho.1
      rw [hlk] at h1
      obtain ⟨z, hz, hr⟩ := load_run (t := t) hw hlo (lk_ok hT hlk) h1 (opd_rt (a := a) ht ho.2) h
      exact ⟨z, exec_v (s := Instr.loadAt t (a.eval y)) rfl hz, RT.of_rv hr⟩
  case h_11 s n ag x t y => -- loadS
    simp only [Bool.and_eq_true] at ho
    simp only [pv] at h
    have h := loadSV_some (hp := E.hp) h
    cases hlk : lk TT t with
    | none => rw [hlk] at ho; cases ho.1
    | some ti =>
      have h1 := ho.1
      rw [hlk] at h1
      obtain ⟨z, hz, hr⟩ := load_run (t := t) hw hlo (lk_ok hT hlk) h1 (opd_rt (a := a) ht ho.2) h
      exact ⟨z, exec_v (s := Instr.loadAt t (a.eval y)) rfl hz, RT.of_rv hr⟩
  case h_14 d x t y f => -- fadd
    simp only [Bool.and_eq_true] at ho
    simp only [pv] at h
    cases hf : udSt (lk TT t) with
    | none => rw [hf] at ho; cases ho.1
    | some fs =>
      have h1 := ho.1
      rw [hf] at h1
      dsimp only at h1
      cases hfi : fs[f]? with
      | none => rw [hfi] at h1; cases h1
      | some on =>
        obtain ⟨o, n⟩ := on
        rw [hfi] at h1
        simp only [Bool.and_eq_true, beq_iff_eq, bne_iff_ne] at h1
        obtain ⟨rfl, hn⟩ := h1
        obtain ⟨z, hz, hr⟩ := fadd_run hT hf hfi hn (opd_rt (a := a) ht ho.2) h
        exact ⟨z, exec_v (s := Instr.fieldAt t (a.eval y) f) rfl hz, hr⟩
  case h_15 e x i t y j => -- ixa
    simp only [Bool.and_eq_true] at ho
    simp only [pv] at h
    obtain ⟨z, hz, hr⟩ := ixa_run hT ho.1.1 (opd_rt (a := a) ht ho.1.2) (opd_rt (a := a) ht ho.2) h
    exact ⟨z, exec_v (s := Instr.indexAt t (a.eval y) (a.eval j)) rfl hz, hr⟩
  case h_16 x i t y j => -- ixs
    simp only [Bool.and_eq_true] at ho
    simp only [pv] at h
    obtain ⟨z, hz, hr⟩ := ixs_run hT ho.1.1 (opd_rt (a := a) ht ho.1.2) (opd_rt (a := a) ht ho.2) h
    exact ⟨z, exec_v (s := Instr.index t (a.eval y) (a.eval j)) rfl hz, hr⟩
  case h_17 op x y op' t p q u => -- bin
    simp only [Bool.and_eq_true, beq_iff_eq] at ho
    simp only [pv] at h
    obtain ⟨⟨rfl, h1⟩, h2⟩ := ho
    obtain ⟨z, hz, hr⟩ := bin_run (P := P) (t := t) (p := p) (q := q) (opd_rt (a := a) ht h1) (opd_rt (a := a) ht h2) h
    exact ⟨z, exec_v (s := do eqGuard op t p q (a.eval p) (a.eval q); binOp op t (a.eval p) (a.eval q)) rfl hz, RT.of_rv hr⟩
  case h_18 pr ne x y op t p q u => -- beq
    rw [Bool.and_eq_true, Bool.and_eq_true, Bool.and_eq_true] at ho
    obtain ⟨⟨⟨h0, h3⟩, h1⟩, h2⟩ := ho
    simp only [pv] at h
    obtain ⟨z, hz, hr⟩ := beqW_run (P := P) (t := t) (p := p) (q := q) hT h0 h3 (opd_rt (a := a) ht h1) (opd_rt (a := a) ht h2) h
    exact ⟨z, exec_v (s := do eqGuard op t p q (a.eval p) (a.eval q); binOp op t (a.eval p) (a.eval q)) rfl hz, RT.of_rv hr⟩
  case h_19 op x op' t y => -- un
    simp only [Bool.and_eq_true, beq_iff_eq] at ho
    simp only [pv] at h
    obtain ⟨rfl, h1⟩ := ho
    obtain ⟨z, hz, hr⟩ := un_run (P := P) (opd_rt (a := a) ht h1) h
    exact ⟨z, exec_v (s := Op.unary op (a.eval y)) rfl hz, RT.of_rv hr⟩
  case h_20 k x s d y => -- conv
    simp only [Bool.and_eq_true] at ho
    simp only [pv] at h
    obtain ⟨z, hz, hr⟩ := conv_run hT ho.1.1 ho.1.2 (opd_rt (a := a) ht ho.2) h
    exact ⟨z, exec_v (s := convert s d (a.eval y)) rfl hz, RT.of_rv hr⟩
  case h_21 b x args ts => -- len
    obtain ⟨args⟩ := args
    obtain ⟨ts⟩ := ts
    dsimp only at ho
    split at ho
    · rename_i y t
      simp only [Bool.and_eq_true] at ho
      simp only [pv] at h
      obtain ⟨z, hz, hr⟩ := len_run (ty := type) hT ho.1 (opd_rt (a := a) ht ho.2) h
      refine ⟨z, ?_, RT.of_rv hr⟩
      simp only [execOp, resolve, invoke, builtin, Sem.run_bind, Sem.run_pure, Result.andThen_ok, List.map_toArray, List.map_cons, List.map_nil, hz]
    · cases ho
  case h_23 x lo hi t y l hh => -- slstr
    simp only [Bool.and_eq_true] at ho
    simp only [pv] at h
    obtain ⟨z, hz, hr⟩ := slstr_run (a := a) hT ho.1.1.1 ht (opd_rt (a := a) ht ho.1.1.2) ho.1.2 ho.2 h
    exact ⟨z, exec_v (s := Instr.sliceAt t (a.eval y) (l.map a.eval) (hh.map a.eval) none) rfl hz, RT.of_rv hr⟩
  case h_24 e x lo hi t y l hh => -- slsl
    simp only [Bool.and_eq_true] at ho
    simp only [pv] at h
    obtain ⟨z, hz, hr⟩ := slsl_run (a := a) hT ho.1.1.1 ht (opd_rt (a := a) ht ho.1.1.2) ho.1.2 ho.2 h
    exact ⟨z, exec_v (s := Instr.sliceAt t (a.eval y) (l.map a.eval) (hh.map a.eval) none) rfl hz, RT.of_rv hr⟩
  case h_26 x i y j => -- ext
    simp only [Bool.and_eq_true, beq_iff_eq] at ho
    simp only [pv] at h
    obtain ⟨rfl, h1⟩ := ho
    obtain ⟨z, hz, hr⟩ := ext_run (P := P) (opd_rt (a := a) ht h1) h
    exact ⟨z, exec_v (s := Instr.extract (a.eval y) i) rfl hz, RT.of_rv hr⟩
  case h_29 f caps g fs cs => -- mkFn
    simp only [Bool.and_eq_true, beq_iff_eq, List.isEmpty_iff] at ho
    simp only [pv, mkFnV] at h
    obtain ⟨⟨rfl, h1⟩, h2⟩ := ho
    split at h
    · rename_i hm
      cases h
      obtain ⟨l1, l2⟩ := opds_rv (a := a) ht h2 hm
      refine ⟨.func (.func f) #[] (cs.toList.map a.eval).toArray, ?_, RV.fn l1 l2⟩
      have e1 : fs = #[] := by simpa using h1
      subst e1
      simp only [execOp, Instr.makeFunc, Sem.run_bind, Sem.run_pure, Result.andThen_ok]
      obtain ⟨cs⟩ := cs
      simp
    · cases h
  case h_30 x y => -- nilck
    simp only [pv] at h
    exact nilck_run rfl (opd_rt (a := a) ht ho) h
  all_goals first | (simp [quiet] at hq; done) | (cases ho; done)
end Go.Proofs.Ytnldohnfdeineaa.Abs
/- The abstract machine and the given one: how memory moves. -/
namespace Go.Proofs.Ytnldohnfdeineaa.Abs
open Go

variable {E E' E0 : Env} {lb : Nat → Nat}

theorem WR.lt (hw : WR E) {i : Nat} {o : AO} (hi : E.hp[i]? = some o) (ho : o ≠ .dead) : E.blk i < E.w.heap.size := by
  cases o with
  | dead => exact absurd rfl ho
  | tok => obtain ⟨cur, te, h, _⟩ := hw.tok i hi; exact (Array.getElem?_eq_some_iff.1 h).1
  | cells cs => obtain ⟨cur, te, h, _⟩ := hw.cells i cs hi; exact (Array.getElem?_eq_some_iff.1 h).1

theorem LR.move {lo : List (Nat × List AV)} (h : LR E lb lo) (hl : Le E E') (hb : ∀ s, fnd [] lo s ≠ [] → E'.w.heap[lb s]? = E.w.heap[lb s]?) : LR E' lb lo := by
  intro s hs
  obtain ⟨h1, cur, te, h2, h3, h4⟩ := h s hs
  refine ⟨hl.pr _ h1, cur, te, by rw [hb s hs]; exact h2, h3, fun j y hj => ?_⟩
  obtain ⟨v, hv, ho, hr⟩ := h4 j y hj
  exact ⟨v, hv, ho, hr.le hl⟩

/-- Blocks are added, none is changed. -/
structure Adds (E E' : Env) : Prop where
  hp : E'.hp = E.hp
  blk : E'.blk = E.blk
  fil : E'.fil = E.fil
  siz : E'.siz = E.siz
  pr : ∀ b, E.pr b → E'.pr b
  pr' : ∀ b, E'.pr b → E.pr b ∨ E.w.heap.size ≤ b ∧ b < E'.w.heap.size
  size : E.w.heap.size ≤ E'.w.heap.size
  os : E'.w.os = E.w.os
  tape : E'.w.tape = E.w.tape
  out : E'.w.output = E.w.output
  frz : ∀ b, frz E'.w b = frz E.w b
  heap : ∀ k, k < E.w.heap.size → E'.w.heap[k]? = E.w.heap[k]?
theorem cell_lt {w : World} {b k : Nat} {v : Value} (h : w.cell? ⟨b, k, none⟩ = some v) : b < w.heap.size := World.block_lt_of_cell? w _ h
theorem cell_same {w w' : World} {b k : Nat} (h : w'.heap[b]? = w.heap[b]?) : w'.cell? ⟨b, k, none⟩ = w.cell? ⟨b, k, none⟩ := by simp [World.cell?, h]
theorem Adds.le (h : Adds E E') : Le E E' := by
  refine ⟨by rw [h.hp]; exact Nat.le_refl _, fun i _ => by rw [h.blk], fun i _ => by rw [h.fil], fun i _ => by rw [h.siz], h.size, h.os, h.tape, h.out, h.frz, fun i _ hi => by rwa [h.hp] at hi, fun i cs _ hi => ⟨cs, by rwa [h.hp] at hi⟩,
    h.pr, fun b hb hlt => (h.pr' b hb).resolve_right (by omega), fun i o hi ho _ => ?_, fun b k v _ hc => by rw [cell_same (h.heap b (cell_lt hc))]; exact hc⟩
  rw [h.hp, List.getElem?_eq_none hi] at ho
  cases ho
theorem Adds.kept (h : Adds E E') : Kept E E' := fun b hb _ => h.heap b hb
theorem Adds.wr (h : Adds E E') (hw : WR E) : WR E' := by
  refine ⟨fun id hid => ?_, fun id cs hid => ?_, fun i j o o' hi hj => ?_, fun i o hi ho hp => ?_, fun b hb => ?_⟩
  · rw [h.hp] at hid
    obtain ⟨cur, te, h1, h2, h3⟩ := hw.tok id hid
    exact ⟨cur, te, by rw [h.blk, h.heap _ (hw.lt hid (by simp))]; exact h1, by rw [h.siz]; exact h2, by rw [h.fil]; exact h3⟩
  · rw [h.hp] at hid
    obtain ⟨cur, te, h1, h2, h3, h4⟩ := hw.cells id cs hid
    refine ⟨cur, te, by rw [h.blk, h.heap _ (hw.lt hid (by simp))]; exact h1, by rw [h.siz]; exact h2, h3, fun j y hj => ?_⟩
    obtain ⟨v, hv, ho, hr⟩ := h4 j y hj
    exact ⟨v, hv, ho, hr.le h.le⟩
  · rw [h.hp] at hi hj
    rw [h.blk]
    exact hw.inj i j o o' hi hj
  · rw [h.hp] at hi
    rw [h.blk] at hp
    rcases h.pr' _ hp with h1 | h1
    · exact hw.npr i o hi ho h1
    · have := hw.lt hi ho; omega
  · rcases h.pr' b hb with h1 | h1
    · exact Nat.lt_of_lt_of_le (hw.prlt b h1) h.size
    · exact h1.2
theorem Adds.refl (E : Env) : Adds E E := ⟨rfl, rfl, rfl, rfl, fun _ h => h, fun _ h => .inl h, Nat.le_refl _, rfl, rfl, rfl, fun _ => rfl, fun _ _ => rfl⟩
theorem Adds.trans {E1 E2 E3 : Env} (h : Adds E1 E2) (h' : Adds E2 E3) : Adds E1 E3 := by
  refine ⟨h'.hp.trans h.hp, h'.blk.trans h.blk, h'.fil.trans h.fil, h'.siz.trans h.siz, fun b hb => h'.pr b (h.pr b hb), fun b hb => ?_, Nat.le_trans h.size h'.size, h'.os.trans h.os, h'.tape.trans h.tape, h'.out.trans h.out, fun b => (h'.frz b).trans (h.frz b),
    fun k hk => (h'.heap k (Nat.lt_of_lt_of_le hk h.size)).trans (h.heap k hk)⟩
  have := h.size
  have := h'.size
  rcases h'.pr' b hb with h1 | h1
  · rcases h.pr' b h1 with h2 | h2
    · exact .inl h2
    · exact .inr ⟨h2.1, by omega⟩
  · exact .inr ⟨by omega, h1.2⟩

/-- One draw. -/
def Env.drew (E : Env) : Env := { E with w := E.w.drew }
theorem adds_drew (E : Env) : Adds E E.drew := ⟨rfl, rfl, rfl, rfl, fun _ h => h, fun _ h => .inl h, Nat.le_refl _, rfl, rfl, rfl, fun _ => rfl, fun _ _ => rfl⟩
/-- A row that nobody holds. -/
def Env.row (E : Env) (c : Array Value) (te : Nat) : Env := { E with w := E.w.alloc (.cells c te) }
theorem adds_row (E : Env) (c : Array Value) (te : Nat) : Adds E (E.row c te) :=
  ⟨rfl, rfl, rfl, rfl, fun _ h => h, fun _ h => .inl h, by simp [Env.row], rfl, rfl, rfl, fun b => frz_alloc _ _ _ b, fun k hk => heap_alloc_old E.w _ k hk⟩
/-- A local box. -/
def Env.boxed (E : Env) (c : Array Value) (te : Nat) : Env := { E with pr := fun b => E.pr b ∨ b = E.w.heap.size, w := E.w.alloc (.cells c te) }
theorem adds_boxed (E : Env) (c : Array Value) (te : Nat) : Adds E (E.boxed c te) :=
  ⟨rfl, rfl, rfl, rfl, fun _ h => .inl h, fun b h => h.imp id (fun e => by subst e; simp [Env.boxed]), by simp [Env.boxed], rfl, rfl, rfl, fun b => frz_alloc _ _ _ b, fun k hk => heap_alloc_old E.w _ k hk⟩

theorem row_block (E : Env) (c : Array Value) (te : Nat) : (E.row c te).w.heap[E.w.heap.size]? = some (.cells c te (0, 0)) := heap_alloc_new E.w _
theorem boxed_block (E : Env) (c : Array Value) (te : Nat) : (E.boxed c te).w.heap[E.w.heap.size]? = some (.cells c te (0, 0)) := heap_alloc_new E.w _

/-- A new row stays as it is. -/
theorem still_row (hw : WR E) (c : Array Value) (te off n : Nat) : (E.row c te).still E.w.heap.size off n := by
  refine ⟨by simp [Env.row], fun hp => ?_, ?_, fun id hid hb => ?_⟩
  · have := hw.prlt _ hp; omega
  · rintro ⟨id, cs, hid, hb⟩
    have := hw.lt hid (by simp)
    simp only [Env.row] at hb
    omega
  · have := hw.lt hid (by simp)
    simp only [Env.row] at hb
    omega

def up {α : Type} (f : Nat → α) (i : Nat) (v : α) : Nat → α := fun j => if j = i then v else f j
theorem up_same {α : Type} (f : Nat → α) (i : Nat) (v : α) : up f i v i = v := by simp [up]
theorem up_ne {α : Type} {f : Nat → α} {i j : Nat} {v : α} (h : j ≠ i) : up f i v j = f j := by simp [up, h]

/-- A new object; old ones may die. -/
def Env.push (E : Env) (hp1 : List AO) (o : AO) (b f s : Nat) (w : World) : Env :=
  { hp := hp1 ++ [o], blk := up E.blk E.hp.length b, fil := up E.fil E.hp.length f, siz := up E.siz E.hp.length s, pr := E.pr, w := w }

structure Pushes (E : Env) (hp1 : List AO) (o : AO) (b f s : Nat) (w : World) : Prop where
  len : hp1.length = E.hp.length
  old : ∀ (i : Nat) o', hp1[i]? = some o' → o' ≠ .dead → E.hp[i]? = some o'
  live : o ≠ .dead
  new : E.w.heap.size ≤ b ∨ (o = .tok ∧ ∃ j : Nat, E.hp[j]? = some .tok ∧ b = E.blk j ∧ E.fil j ≤ f) ∨ (∃ cs, o = .cells cs ∧ ∃ (j : Nat) (cs' : List AV), E.hp[j]? = some (.cells cs') ∧ b = E.blk j)
  size : E.w.heap.size ≤ w.heap.size
  os : w.os = E.w.os
  tape : w.tape = E.w.tape
  out : w.output = E.w.output
  frz : ∀ b, frz w b = frz E.w b
  cell : ∀ c k v, E.still c k 1 → E.w.cell? ⟨c, k, none⟩ = some v → w.cell? ⟨c, k, none⟩ = some v
theorem push_get {hp1 : List AO} {o : AO} {i : Nat} {x : AO} (h : (hp1 ++ [o])[i]? = some x) : (i < hp1.length ∧ hp1[i]? = some x) ∨ (i = hp1.length ∧ x = o) := by
  rcases Nat.lt_trichotomy i hp1.length with hl | hl | hl
  · rw [List.getElem?_append_left hl] at h; exact .inl ⟨hl, h⟩
  · subst hl; simp at h; exact .inr ⟨rfl, h.symm⟩
  · have : (hp1 ++ [o]).length ≤ i := by simp; omega
    rw [List.getElem?_eq_none this] at h; cases h
theorem Pushes.le {hp1 : List AO} {o : AO} {b f s : Nat} {w : World} (h : Pushes E hp1 o b f s w) : Le E (E.push hp1 o b f s w) := by
  have old : ∀ (i : Nat) x, i < E.hp.length → (hp1 ++ [o])[i]? = some x → x ≠ .dead → E.hp[i]? = some x := by
    intro i x hi hx hd
    rcases push_get hx with ⟨_, h1⟩ | ⟨h1, _⟩
    · exact h.old i x h1 hd
    · rw [h.len] at h1; omega
  refine ⟨by simp [Env.push, h.len], fun i hi => up_ne (Nat.ne_of_lt hi), fun i hi => up_ne (Nat.ne_of_lt hi), fun i hi => up_ne (Nat.ne_of_lt hi), h.size, h.os, h.tape, h.out, h.frz, fun i hi hx => old i _ hi hx (by simp), fun i cs hi hx => ⟨cs, old i _ hi hx (by simp)⟩,
    fun _ hb => hb, fun _ hb _ => hb, fun i x hi hx hd => ?_, h.cell⟩
  rcases push_get hx with ⟨h1, _⟩ | ⟨h1, rfl⟩
  · rw [h.len] at h1; omega
  · have : i = E.hp.length := by rw [h1, h.len]
    subst this
    simp only [Env.push, up_same]
    exact h.new
theorem Pushes.wr {hp1 : List AO} {o : AO} {b f s : Nat} {w : World} (h : Pushes E hp1 o b f s w) (hw : WR E) (hpr : ¬ E.pr b)
    (hheap : ∀ (i : Nat) o', hp1[i]? = some o' → o' ≠ .dead → w.heap[E.blk i]? = E.w.heap[E.blk i]? ∧ E.blk i ≠ b)
    (htok : o = .tok → ∃ cur te, w.heap[b]? = some (.cells cur te (0, 0)) ∧ cur.size = s ∧ f ≤ cur.size)
    (hcells : ∀ cs, o = .cells cs → ∃ cur te, w.heap[b]? = some (.cells cur te (0, 0)) ∧ cur.size = s ∧ cs.length ≤ cur.size ∧ ∀ (j : Nat) (y : AV), cs[j]? = some y → ∃ v : Value, cur[j]? = some v ∧ v.oneCell' = true ∧ RV (E.push hp1 o b f s w) y v) : WR (E.push hp1 o b f s w) := by
  have hle := h.le
  have case : ∀ (i : Nat) x, (hp1 ++ [o])[i]? = some x → x ≠ .dead → (i < E.hp.length ∧ hp1[i]? = some x ∧ E.hp[i]? = some x) ∨ (i = E.hp.length ∧ x = o) := by
    intro i x hx hd
    rcases push_get hx with ⟨h1, h2⟩ | ⟨h1, h2⟩
    · exact .inl ⟨by rw [← h.len]; exact h1, h2, h.old i x h2 hd⟩
    · exact .inr ⟨by rw [← h.len]; exact h1, h2⟩
  refine ⟨fun id hid => ?_, fun id cs hid => ?_, fun i j x y hi hj hx hy he => ?_, fun i x hi hx hp => ?_, fun c hc => Nat.lt_of_lt_of_le (hw.prlt c hc) h.size⟩
  · rcases case id _ hid (by simp) with ⟨h1, h2, h3⟩ | ⟨rfl, h2⟩
    · obtain ⟨cur, te, g1, g2, g3⟩ := hw.tok id h3
      simp only [Env.push, up_ne (Nat.ne_of_lt h1)]
      exact ⟨cur, te, by rw [(hheap id _ h2 (by simp)).1]; exact g1, g2, g3⟩
    · simp only [Env.push, up_same]
      exact htok h2.symm
  · rcases case id _ hid (by simp) with ⟨h1, h2, h3⟩ | ⟨rfl, h2⟩
    · obtain ⟨cur, te, g1, g2, g3, g4⟩ := hw.cells id cs h3
      simp only [Env.push, up_ne (Nat.ne_of_lt h1)]
      refine ⟨cur, te, by rw [(hheap id _ h2 (by simp)).1]; exact g1, g2, g3, fun j y hj => ?_⟩
      obtain ⟨v, hv, ho, hr⟩ := g4 j y hj
      exact ⟨v, hv, ho, hr.le hle⟩
    · have := hcells cs h2.symm
      simp only [Env.push, up_same] at this ⊢
      exact this
  · rcases case i x hi hx with ⟨h1, h2, h3⟩ | ⟨rfl, rfl⟩ <;> rcases case j y hj hy with ⟨h4, h5, h6⟩ | ⟨rfl, rfl⟩
    · simp only [Env.push, up_ne (Nat.ne_of_lt h1), up_ne (Nat.ne_of_lt h4)] at he
      exact hw.inj i j x y h3 h6 hx hy he
    · simp only [Env.push, up_ne (Nat.ne_of_lt h1), up_same] at he
      exact absurd he (hheap i x h2 hx).2
    · simp only [Env.push, up_ne (Nat.ne_of_lt h4), up_same] at he
      exact absurd he.symm (hheap j y h5 hy).2
    · rfl
  · rcases case i x hi hx with ⟨h1, h2, h3⟩ | ⟨rfl, rfl⟩
    · simp only [Env.push, up_ne (Nat.ne_of_lt h1)] at hp
      exact hw.npr i x h3 hx hp
    · simp only [Env.push, up_same] at hp
      exact hpr hp

/-- What the walk of a call knows. -/
structure SR (E0 E : Env) (lb : Nat → Nat) (n : Nat) (st : St) (a : Act) : Prop where
  hp : E.hp = st.hp
  le : Le E0 E
  kp : Kept E0 E
  wr : WR E
  tr : TR E lb st.tm a.tmps
  lr : LR E lb st.lo
  lnew : ∀ s, fnd [] st.lo s ≠ [] → E0.w.heap.size ≤ lb s
  linj : ∀ s s', fnd [] st.lo s ≠ [] → fnd [] st.lo s' ≠ [] → lb s = lb s' → s = s'
  size : n ≤ a.tmps.size
  dfs : a.defers = []

variable {n : Nat} {st : St} {a : Act}
theorem SR.move (h : SR E0 E lb n st a) (hl : Le E E') (hk : Kept E E') (hw : WR E') : SR E0 E' lb n ⟨st.tm, st.lo, E'.hp⟩ a := by
  refine ⟨rfl, h.le.trans hl, h.kp.trans h.le hk, hw, fun t => (h.tr t).le hl, h.lr.move hl (fun s hs => ?_), h.lnew, h.linj, h.size, h.dfs⟩
  obtain ⟨h1, cur, te, h2, _⟩ := h.lr s hs
  exact hk _ (Array.getElem?_eq_some_iff.1 h2).1 (fun i o hi ho hb => h.wr.npr i o hi ho (hb ▸ h1))
theorem SR.adds (h : SR E0 E lb n st a) (ha : Adds E E') : SR E0 E' lb n st a := by
  have := h.move ha.le ha.kept (ha.wr h.wr)
  rw [ha.hp, h.hp] at this
  exact this

theorem fnd_ins {α : Type} {d : α} {k : Nat} {v : α} : ∀ {l : List (Nat × α)} {t : Nat}, fnd d (ins k v l) t = if t = k then v else fnd d l t
  | [], t => by
    simp only [ins, fnd]
    by_cases h : t = k
    · subst h; simp [sel]
    · rw [if_neg h, show (k == t) = false by simp; exact fun e => h e.symm]; rfl
  | (j, u) :: l, t => by
    simp only [ins]
    by_cases h1 : k < j
    · rw [decide_eq_true h1]
      simp only [sel, fnd]
      by_cases h : t = k
      · subst h; simp
      · rw [if_neg h, show (k == t) = false by simp; exact fun e => h e.symm]
    · rw [decide_eq_false h1]
      simp only [sel]
      by_cases h2 : k = j
      · subst h2
        rw [show (k == k) = true by simp]
        simp only [fnd]
        by_cases h : t = k
        · subst h; simp [sel]
        · rw [if_neg h, show (k == t) = false by simp; exact fun e => h e.symm]
          simp [sel]
      · rw [show (k == j) = false by simp; exact h2]
        simp only [fnd]
        by_cases h3 : j = t
        · subst h3
          rw [if_neg (fun e => h2 e.symm), show (j == j) = true by simp]; rfl
        · rw [show (j == t) = false by simp; exact h3]
          exact fnd_ins
theorem fnd_keep {α : Type} {d : α} {ks : List Nat} : ∀ {l : List (Nat × α)} {t : Nat}, fnd d (keep ks l) t = fnd d l t ∨ fnd d (keep ks l) t = d
  | [], t => .inl rfl
  | (k, v) :: l, t => by
    by_cases hk : k = t
    · subst hk
      simp only [keep]
      cases hh : hasN ks k with
      | true => left; simp [sel, fnd]
      | false =>
        right
        simp only [sel]
        -- no entry of this key is kept
        have none : ∀ l : List (Nat × α), fnd d (keep ks l) k = d := by
          intro l
          induction l with
          | nil => rfl
          | cons x l ih =>
            obtain ⟨j, u⟩ := x
            simp only [keep]
            cases hj : hasN ks j with
            | false => exact ih
            | true =>
              simp only [sel, fnd]
              have : j ≠ k := fun e => by rw [e, hh] at hj; cases hj
              rw [show (j == k) = false by simp; exact this]
              exact ih
        exact none l
    · simp only [keep]
      have e : fnd d ((k, v) :: l) t = fnd d l t := by
        simp only [fnd]; rw [show (k == t) = false by simp; exact hk]; rfl
      rw [e]
      cases hasN ks k with
      | false => exact fnd_keep
      | true =>
        simp only [sel, fnd]
        rw [show (k == t) = false by simp; exact hk]
        exact fnd_keep
theorem noLocs_fnd {d : Nat} : ∀ {l : List (Nat × AV)} {t : Nat}, noLocs d l = true → notLoc d (fnd .undef l t) = true
  | [], t, _ => rfl
  | (k, v) :: l, t, h => by
    simp only [noLocs, Bool.and_eq_true] at h
    simp only [fnd]
    cases (k == t) with
    | true => exact h.1
    | false => exact noLocs_fnd h.2

theorem getD_put {tmps : Array Value} {d t : Nat} {x : Value} (hd : d < tmps.size) : (tmps.setIfInBounds d x).getD t undef = if t = d then x else tmps.getD t undef := by
  by_cases h : t = d
  · subst h
    rw [if_pos rfl]
    simp [Array.getD_eq_getD_getElem?, hd]
  · rw [if_neg h, Array.getD_eq_getD_getElem?, Array.getElem?_setIfInBounds_ne (fun e => h e.symm), ← Array.getD_eq_getD_getElem?]

/-- A slot is filled. -/
theorem SR.put (h : SR E0 E lb n st a) {d : Option Nat} {v : AV} {x : Value} (hd : ∀ k, d = some k → k < n) (hx : RT E lb v x) : SR E0 E lb n (st.put d v) (a.put d x) := by
  cases d with
  | none => exact h
  | some d =>
    have hlt : d < a.tmps.size := Nat.lt_of_lt_of_le (hd d rfl) h.size
    refine ⟨h.hp, h.le, h.kp, h.wr, fun t => ?_, h.lr, h.lnew, h.linj, by simpa [Act.put] using h.size, h.dfs⟩
    simp only [St.put, putT, Act.put, fnd_ins, getD_put hlt]
    by_cases ht : t = d
    · rw [if_pos ht, if_pos ht]; exact hx
    · rw [if_neg ht, if_neg ht]; exact h.tr t
theorem SR.keep (h : SR E0 E lb n st a) (live : List Nat) : SR E0 E lb n (st.keep live) a := by
  have ne : ∀ s, fnd [] (Abs.keep live st.lo) s ≠ [] → fnd [] st.lo s ≠ [] ∧ fnd [] (Abs.keep live st.lo) s = fnd [] st.lo s := by
    intro s hs
    rcases fnd_keep (d := ([] : List AV)) (ks := live) (l := st.lo) (t := s) with h1 | h1
    · exact ⟨h1 ▸ hs, h1⟩
    · exact absurd h1 hs
  refine ⟨h.hp, h.le, h.kp, h.wr, fun t => ?_, fun s hs => ?_, fun s hs => h.lnew s (ne s hs).1, fun s s' hs hs' => h.linj s s' (ne s hs).1 (ne s' hs').1, h.size, h.dfs⟩
  · show RT E lb (fnd .undef (Abs.keep live st.tm) t) _
    rcases fnd_keep (d := AV.undef) (ks := live) (l := st.tm) (t := t) with h1 | h1
    · rw [h1]; exact h.tr t
    · rw [h1]; trivial
  · have := h.lr s (ne s hs).1
    have e : fnd [] (st.keep live).lo s = fnd [] st.lo s := (ne s hs).2
    rw [e]
    exact this

/-- A local box is made at d. -/
theorem SR.boxed (h : SR E0 E lb n st a) {d : Nat} {cs : List AV} {c : Array Value} {te : Nat} (hd : d < n) (hnl : noLocs d st.tm = true) (hc : CsR E cs c) :
    SR E0 (E.boxed c te) (up lb d E.w.heap.size) n ⟨ins d (.loc d 0) st.tm, ins d cs st.lo, st.hp⟩ (a.put (some d) (.pointer (some ⟨E.w.heap.size, 0, none⟩))) := by
  have ha := adds_boxed E c te
  have hlt : d < a.tmps.size := Nat.lt_of_lt_of_le hd h.size
  have rt : ∀ {v : AV} {x : Value}, notLoc d v = true → RT E lb v x → RT (E.boxed c te) (up lb d E.w.heap.size) v x := by
    intro v x hn hx
    cases v with
    | loc s o =>
      have hs : s ≠ d := by intro e; subst e; simp [notLoc] at hn
      have hx : x = .pointer (some ⟨lb s, o, none⟩) := hx
      show x = .pointer (some ⟨up lb d E.w.heap.size s, o, none⟩)
      rw [up_ne hs]; exact hx
    | el cs o => exact ElAt.le ha.le hx
    | undef => trivial
    | _ => exact RV.le ha.le hx
  have old : ∀ s, s ≠ d → fnd [] (ins d cs st.lo) s = fnd [] st.lo s := fun s hs => by rw [fnd_ins, if_neg hs]
  have hblk : ∀ s, fnd [] st.lo s ≠ [] → lb s < E.w.heap.size := by
    intro s hs
    obtain ⟨_, cur, te, h2, _⟩ := h.lr s hs
    exact (Array.getElem?_eq_some_iff.1 h2).1
  refine ⟨h.hp, h.le.trans ha.le, h.kp.trans h.le ha.kept, ha.wr h.wr, fun t => ?_, fun s hs => ?_, fun s hs => ?_, fun s s' hs hs' he => ?_, by simpa [Act.put] using h.size, h.dfs⟩
  · simp only [Act.put, fnd_ins, getD_put hlt]
    by_cases ht : t = d
    · rw [if_pos ht, if_pos ht]
      show _ = Value.pointer (some ⟨up lb d E.w.heap.size d, 0, none⟩)
      rw [up_same]
    · rw [if_neg ht, if_neg ht]
      exact rt (noLocs_fnd hnl) (h.tr t)
  · by_cases hsd : s = d
    · subst hsd
      simp only [fnd_ins, if_true, up_same]
      refine ⟨.inr rfl, c, te, boxed_block E c te, hc.1, fun j y hj => ?_⟩
      obtain ⟨v, hv, ho, hr⟩ := hc.2 j y hj
      exact ⟨v, hv, ho, hr.le ha.le⟩
    · simp only [old s hsd, up_ne hsd] at hs ⊢
      obtain ⟨h1, cur, te', h2, h3, h4⟩ := h.lr s hs
      refine ⟨.inl h1, cur, te', by rw [ha.heap _ (hblk s hs)]; exact h2, h3, fun j y hj => ?_⟩
      obtain ⟨v, hv, ho, hr⟩ := h4 j y hj
      exact ⟨v, hv, ho, hr.le ha.le⟩
  · by_cases hsd : s = d
    · subst hsd
      rw [up_same]
      exact h.le.size
    · simp only [old s hsd] at hs
      rw [up_ne hsd]; exact h.lnew s hs
  · by_cases hsd : s = d <;> by_cases hsd' : s' = d
    · rw [hsd, hsd']
    · simp only [old s' hsd'] at hs'
      rw [hsd, up_same, up_ne hsd'] at he
      have := hblk s' hs'; omega
    · simp only [old s hsd] at hs
      rw [hsd', up_same, up_ne hsd] at he
      have := hblk s hs; omega
    · simp only [old s hsd] at hs
      simp only [old s' hsd'] at hs'
      rw [up_ne hsd, up_ne hsd'] at he
      exact h.linj s s' hs hs' he
end Go.Proofs.Ytnldohnfdeineaa.Abs
/- The abstract machine and the given one: rows. -/
namespace Go.Proofs.Ytnldohnfdeineaa.Abs
open Go

variable {P : Program} {TT : List (Nat × TI)} {E E' E0 : Env} {lb : Nat → Nat} {n : Nat} {st : St} {a : Act}

/-- Cells, one by one, as a list. -/
def CsL (E : Env) (cs : List AV) (vs : List Value) : Prop := vs.length = cs.length ∧ ∀ (k : Nat) (y : AV), cs[k]? = some y → ∃ v : Value, vs[k]? = some v ∧ v.oneCell' = true ∧ RV E y v
theorem CsL.le {cs vs} (hl : Le E E') (h : CsL E cs vs) : CsL E' cs vs :=
  ⟨h.1, fun k y hk => by obtain ⟨v, hv, ho, hr⟩ := h.2 k y hk; exact ⟨v, hv, ho, hr.le hl⟩⟩
theorem CsL.one {cs vs} (h : CsL E cs vs) : ∀ v ∈ vs, v.oneCell' = true := by
  intro v hv
  obtain ⟨k, hk⟩ := List.mem_iff_getElem?.1 hv
  have hlt := lt_of_get hk
  rw [h.1] at hlt
  obtain ⟨u, hu, ho, _⟩ := h.2 k _ (List.getElem?_eq_getElem hlt)
  rw [hu] at hk
  cases hk
  exact ho
theorem CsL.append {cs vs ds us} (h : CsL E cs vs) (h' : CsL E ds us) : CsL E (cs ++ ds) (vs ++ us) := by
  refine ⟨by simp [h.1, h'.1], fun k y hk => ?_⟩
  rw [List.getElem?_append] at hk
  rw [List.getElem?_append, h.1]
  split at hk
  · rename_i hlt
    rw [if_pos hlt]; exact h.2 k y hk
  · rename_i hlt
    rw [if_neg hlt]; exact h'.2 _ y hk
theorem CsR.list {cs : List AV} {c : Array Value} (h : CsR E cs c) : CsL E cs c.toList := ⟨by simpa using h.1, fun k y hk => by obtain ⟨v, hv, r⟩ := h.2 k y hk; exact ⟨v, by simpa using hv, r⟩⟩
theorem CsL.arr {cs : List AV} {vs : List Value} (h : CsL E cs vs) : CsR E cs vs.toArray := ⟨by simpa using h.1, fun k y hk => by obtain ⟨v, hv, r⟩ := h.2 k y hk; exact ⟨v, by simpa using hv, r⟩⟩
theorem rv_csl {v : AV} {x : Value} (h : RV E v x) (hm : v.mem = true) : CsL E v.cells x.cells.toList := CsR.list (rv_cells h hm)

/-- Elements of e cells, laid one behind the other. -/
structure Flat (E : Env) (e : Nat) (xs : List AV) (vs : List Value) : Prop where
  sz : ∀ x ∈ xs, x.cells.length = e
  cs : CsL E (xs.flatMap AV.cells) vs
theorem flat_len {e : Nat} : ∀ {xs : List AV}, (∀ x ∈ xs, x.cells.length = e) → (xs.flatMap AV.cells).length = xs.length * e
  | [], _ => by simp
  | x :: xs, h => by
    simp only [List.flatMap_cons, List.length_append, List.length_cons, Nat.add_mul, Nat.one_mul]
    rw [flat_len (fun y hy => h y (List.mem_cons_of_mem _ hy)), h x List.mem_cons_self]
    omega
theorem Flat.len {e xs vs} (h : Flat E e xs vs) : vs.length = xs.length * e := h.cs.1.trans (flat_len h.sz)
theorem flat_get {e : Nat} : ∀ {xs : List AV} {i : Nat} {x : AV} {j : Nat}, (∀ x ∈ xs, x.cells.length = e) → xs[i]? = some x → j < e → (xs.flatMap AV.cells)[i * e + j]? = x.cells[j]?
  | [], i, x, j, _, h, _ => by simp at h
  | y :: xs, i, x, j, hs, h, hj => by
    have hy := hs y List.mem_cons_self
    cases i with
    | zero =>
      simp at h; subst h
      rw [List.flatMap_cons, Nat.zero_mul, Nat.zero_add, List.getElem?_append_left (by omega)]
    | succ i =>
      simp at h
      rw [List.flatMap_cons, List.getElem?_append_right (by rw [hy, Nat.add_mul]; omega), hy]
      rw [show (i + 1) * e + j - e = i * e + j by rw [Nat.add_mul]; omega]
      exact flat_get (fun z hz => hs z (List.mem_cons_of_mem _ hz)) h hj
theorem flat_split {e : Nat} : ∀ {xs : List AV} {k : Nat} {y : AV}, (∀ x ∈ xs, x.cells.length = e) → (xs.flatMap AV.cells)[k]? = some y → ∃ i j x, k = i * e + j ∧ j < e ∧ xs[i]? = some x ∧ x.cells[j]? = some y
  | [], k, y, _, h => by simp at h
  | x :: xs, k, y, hs, h => by
    have hx := hs x List.mem_cons_self
    rw [List.flatMap_cons, List.getElem?_append] at h
    split at h
    · rename_i hlt
      exact ⟨0, k, x, by omega, by omega, rfl, h⟩
    · rename_i hge
      obtain ⟨i, j, z, h1, h2, h3, h4⟩ := flat_split (fun z hz => hs z (List.mem_cons_of_mem _ hz)) h
      exact ⟨i + 1, j, z, by rw [Nat.add_mul]; omega, h2, by simpa using h3, h4⟩
theorem Flat.append {e xs vs ys us} (h : Flat E e xs vs) (h' : Flat E e ys us) : Flat E e (xs ++ ys) (vs ++ us) :=
  ⟨fun x hx => (List.mem_append.1 hx).elim (h.sz x) (h'.sz x), by rw [List.flatMap_append]; exact h.cs.append h'.cs⟩
theorem Flat.le {e xs vs} (hl : Le E E') (h : Flat E e xs vs) : Flat E' e xs vs := ⟨h.sz, h.cs.le hl⟩

/-- What a slice says of memory, as a list. -/
theorem rv_flat {t e xs x} (h : RV E (.sl t e xs) x) : ∃ A c vs, x = .slice A xs.length c ∧ xs.length ≤ c ∧ Flat E e xs vs ∧ (A = none → xs = [] ∧ c = 0) ∧ (∀ ad, A = some ad → ∀ (j : Nat) (u : Value), vs[j]? = some u → E.w.cell? (ad.add j) = some u) := by
  cases h with
  | nil h => exact ⟨none, 0, [], rfl, Nat.le_refl _, ⟨by simp, by simp [CsL]⟩, fun _ => ⟨rfl, rfl⟩, fun _ h => by cases h⟩
  | sl cv hlen hcap hsz hcell hone hrel hst ht =>
    rename_i b off cap
    refine ⟨_, _, (List.range (xs.length * e)).map cv, rfl, hlen, ⟨hsz, by simp [flat_len hsz], fun k y hk => ?_⟩, fun h => by (cases h), fun ad had j u hj => ?_⟩
    · have hlt := lt_of_get hk
      rw [flat_len hsz] at hlt
      obtain ⟨i, j, x, rfl, hj, hx, hy⟩ := flat_split hsz hk
      exact ⟨cv (i * e + j), by simp [hlt], hone _ hlt, hrel i x j y hx hy⟩
    · cases had
      have hlt : j < xs.length * e := by simpa using lt_of_get hj
      rw [Addr.add_lit, hcell j hlt]
      simp [hlt] at hj
      rw [hj]

/-- A slice out of a block that stays as it is. -/
theorem mk_sl {t e xs vs b off cap} {cur : Array Value} {te : Nat} {fr : Nat × Nat} (hf : Flat E e xs vs) (hb : E.w.heap[b]? = some (.cells cur te fr)) (hc : ∀ k, k < xs.length * e → cur[off + k]? = vs[k]?) (hlen : xs.length ≤ cap) (hcap : cap ≤ maxLen)
    (hst : E.still b off (xs.length * e)) (ht : E.token t e b off xs.length cap) : RV E (.sl t e xs) (.slice (some ⟨b, off, none⟩) xs.length cap) := by
  have hl := hf.len
  have get : ∀ k, k < xs.length * e → ∃ v : Value, vs[k]? = some v ∧ v.oneCell' = true ∧ vs.getD k undef = v := by
    intro k hk
    have hk2 : k < vs.length := by omega
    exact ⟨vs[k], List.getElem?_eq_getElem hk2, hf.cs.one _ (List.getElem_mem hk2), by simp [List.getD, hk2]⟩
  refine .sl (fun k => vs.getD k undef) hlen hcap hf.sz (fun k hk => ?_) (fun k hk => ?_) (fun i x j y hi hj => ?_) hst ht
  · obtain ⟨v, h1, _, h3⟩ := get k hk
    rw [cell_of_heap hb, hc k hk, h1, h3]
  · obtain ⟨v, h1, h2, h3⟩ := get k hk
    rw [h3]; exact h2
  · have hje := lt_of_get hj
    rw [hf.sz x (List.mem_of_getElem? hi)] at hje
    have h1 := flat_get hf.sz hi hje
    rw [hj] at h1
    obtain ⟨v, hv, _, hr⟩ := hf.cs.2 _ _ h1
    have : vs.getD (i * e + j) undef = v := by simp [List.getD, hv]
    rw [this]; exact hr

theorem row_get {l vs : List Value} {o m : Nat} (hm : vs.length = m) (h : o + m ≤ l.length) (k : Nat) : (l.take o ++ vs ++ l.drop (o + m))[k]? = if o ≤ k ∧ k < o + m then vs[k - o]? else l[k]? := by
  subst hm
  have h1 : (l.take o).length = o := by simp; omega
  by_cases ha : k < o
  · rw [if_neg (by omega), List.append_assoc, List.getElem?_append_left (by omega), List.getElem?_take, if_pos ha]
  · by_cases hb : k < o + vs.length
    · rw [if_pos (by omega), List.append_assoc, List.getElem?_append_right (by omega), h1, List.getElem?_append_left (by omega)]
    · rw [if_neg (by omega), List.getElem?_append_right (by simp; omega), List.getElem?_drop]
      congr 1
      simp [h1]
      omega
theorem row_len {l vs : List Value} {o m : Nat} (hm : vs.length = m) (h : o + m ≤ l.length) : (l.take o ++ vs ++ l.drop (o + m)).length = l.length := by
  simp [hm]; omega

/-- The row of a block, written anew. -/
def wrow (cur : Array Value) (o : Nat) (vs : List Value) : Array Value := (cur.toList.take o ++ vs ++ cur.toList.drop (o + vs.length)).toArray
theorem wrow_get {cur : Array Value} {o : Nat} {vs : List Value} (h : o + vs.length ≤ cur.size) (k : Nat) : (wrow cur o vs)[k]? = if o ≤ k ∧ k < o + vs.length then vs[k - o]? else cur[k]? := by
  have := row_get (l := cur.toList) (vs := vs) (o := o) rfl (by simpa using h) k
  simp only [wrow]
  rw [List.getElem?_toArray, this]
  simp
theorem wrow_size {cur : Array Value} {o : Nat} {vs : List Value} (h : o + vs.length ≤ cur.size) : (wrow cur o vs).size = cur.size := by
  have := row_len (l := cur.toList) (vs := vs) (o := o) rfl (by simpa using h)
  simpa [wrow] using this

/-- Cells of a row, written anew, by what was written. -/
theorem csr_wrow {cs l : List AV} {cur : Array Value} {ds : List AV} {o : Nat} {vs : List Value} (hle : cs.length ≤ cur.size) (h : ∀ (j : Nat) (y : AV), cs[j]? = some y → ∃ v : Value, cur[j]? = some v ∧ v.oneCell' = true ∧ RV E y v) (hv : CsL E ds vs) (hu : upd o ds cs = some l) :
    o + vs.length ≤ cur.size ∧ ∀ (j : Nat) (y : AV), l[j]? = some y → ∃ v : Value, (wrow cur o vs)[j]? = some v ∧ v.oneCell' = true ∧ RV E y v := by
  obtain ⟨h1, h2, h3⟩ := upd_spec hu
  have hfit : o + vs.length ≤ cur.size := by rw [hv.1]; omega
  refine ⟨hfit, fun j y hj => ?_⟩
  rw [h3 j] at hj
  rw [wrow_get hfit, hv.1]
  split at hj
  · rename_i hc
    rw [if_pos hc]
    exact hv.2 _ y hj
  · rename_i hc
    rw [if_neg hc]
    exact h j y hj

theorem store_run {t : Nat} {i : TypeInfo} {g o te : Nat} {cur : Array Value} {w : World} {x : Value} (hi : P.info? t = some i) (hsz : x.cells.size = i.size) (hg : w.heap[g]? = some (.cells cur te (0, 0))) (hfit : o + x.cells.toList.length ≤ cur.size) (h1 : ∀ v ∈ x.cells.toList, v.oneCell' = true) :
    (Instr.storeAt t (.pointer (some ⟨g, o, none⟩)) x).run P w = .ok () (w.setRow g (wrow cur o x.cells.toList)) := by
  have hst := run_storeCells_at P g o te x.cells.toList 0 cur w hg (by simpa using hfit) h1
  simp only [Nat.add_zero] at hst
  simp only [Instr.storeAt, Instr.sureAddr, Sem.run_bind, Sem.run_pure, Result.andThen_ok, storeVar, sizeOf, typeInfo, run_program, hi, hsz]
  simp only [ne_eq, not_true_eq_false, if_false, hst, wrow]
end Go.Proofs.Ytnldohnfdeineaa.Abs
/- The abstract machine and the given one: stores, new objects, appends. -/
namespace Go.Proofs.Ytnldohnfdeineaa.Abs
open Go

variable {P : Program} {TT : List (Nat × TI)} {E E' E0 : Env} {lb : Nat → Nat} {n : Nat} {st : St} {a : Act}

/-- A row of one's own is written. -/
def Env.wr1 (E : Env) (g : Nat) (row : Array Value) : Env := { E with w := E.w.setRow g row }
theorem size_setRow (w : World) (g : Nat) (row : Array Value) : (w.setRow g row).heap.size = w.heap.size := by simp [World.setRow]
theorem le_wr1 {g : Nat} {row : Array Value} (hg : E.pr g) : Le E (E.wr1 g row) := by
  refine ⟨Nat.le_refl _, fun _ _ => rfl, fun _ _ => rfl, fun _ _ => rfl, by simp [Env.wr1, size_setRow], rfl, rfl, rfl, fun b => frz_setRow _ _ _ b, fun _ _ h => h, fun _ cs _ h => ⟨cs, h⟩, fun _ h => h, fun _ h _ => h, fun i o hi ho _ => ?_, fun b k v hs hc => ?_⟩
  · have ho : E.hp[i]? = some o := ho
    rw [List.getElem?_eq_none hi] at ho; cases ho
  · have hb : b ≠ g := fun e => hs.pr (e ▸ hg)
    show (E.w.setRow g row).cell? _ = _
    rw [cell_same (setRow_other E.w g b row hb)]; exact hc
theorem SR.store1 (h : SR E0 E lb n st a) {s o : Nat} {x : AV} {v : Value} {cs : List AV} (hm : x.mem = true) (hx : RV E x v) (hu : upd o x.cells (fnd [] st.lo s) = some cs) (hne : fnd [] st.lo s ≠ []) :
    ∃ cur te, E.w.heap[lb s]? = some (.cells cur te (0, 0)) ∧ o + v.cells.toList.length ≤ cur.size ∧ SR E0 (E.wr1 (lb s) (wrow cur o v.cells.toList)) lb n ⟨st.tm, ins s cs st.lo, st.hp⟩ a := by
  obtain ⟨hpr, cur, te, hcur, hsz, hcs⟩ := h.lr s hne
  have hl : Le E (E.wr1 (lb s) (wrow cur o v.cells.toList)) := le_wr1 hpr
  obtain ⟨hfit, hnew⟩ := csr_wrow (by omega) hcs (rv_csl hx hm) hu
  refine ⟨cur, te, hcur, hfit, ?_⟩
  have hlen := (upd_spec hu).1
  have other : ∀ s', s' ≠ s → fnd [] (ins s cs st.lo) s' = fnd [] st.lo s' := fun s' hs => by rw [fnd_ins, if_neg hs]
  refine ⟨h.hp, h.le.trans hl, fun b hb hn => ?_, ⟨fun id hid => ?_, fun id ds hid => ?_, h.wr.inj, h.wr.npr, fun b hb => by simp only [Env.wr1, size_setRow]; exact h.wr.prlt b hb⟩, fun t => (h.tr t).le hl, fun s' hs' => ?_, fun s' hs' => ?_, fun s1 s2 h1 h2 he => ?_, h.size, h.dfs⟩
  · have hbs : b ≠ lb s := fun e => by have := h.lnew s hne; omega
    show (E.w.setRow _ _).heap[b]? = _
    rw [setRow_other _ _ _ _ hbs]; exact h.kp b hb hn
  · obtain ⟨c', te', h1, h2, h3⟩ := h.wr.tok id hid
    have hid : E.hp[id]? = some .tok := hid
    have hne2 : E.blk id ≠ lb s := fun e => h.wr.npr id _ hid (by simp) (by rw [e]; exact hpr)
    exact ⟨c', te', (setRow_other E.w (lb s) (E.blk id) _ hne2).trans h1, h2, h3⟩
  · obtain ⟨c', te', h1, h2, h3, h4⟩ := h.wr.cells id ds hid
    have hid : E.hp[id]? = some (.cells ds) := hid
    have hne2 : E.blk id ≠ lb s := fun e => h.wr.npr id _ hid (by simp) (by rw [e]; exact hpr)
    refine ⟨c', te', (setRow_other E.w (lb s) (E.blk id) _ hne2).trans h1, h2, h3, fun j y hj => ?_⟩
    obtain ⟨u, hu1, hu2, hu3⟩ := h4 j y hj
    exact ⟨u, hu1, hu2, hu3.le hl⟩
  · by_cases hs : s' = s
    · subst hs
      simp only [fnd_ins, if_true]
      refine ⟨hpr, _, te, setRow_heap _ _ _ _ _ _ hcur, by rw [wrow_size hfit, hsz, hlen], fun j y hj => ?_⟩
      obtain ⟨u, hu1, hu2, hu3⟩ := hnew j y hj
      exact ⟨u, hu1, hu2, hu3.le hl⟩
    · simp only [other s' hs] at hs' ⊢
      obtain ⟨h1, c', te', h2, h3, h4⟩ := h.lr s' hs'
      refine ⟨h1, c', te', (setRow_other E.w (lb s) (lb s') _ (fun e => hs (h.linj s' s hs' hne e))).trans h2, h3, fun j y hj => ?_⟩
      obtain ⟨u, hu1, hu2, hu3⟩ := h4 j y hj
      exact ⟨u, hu1, hu2, hu3.le hl⟩
  · by_cases hs : s' = s
    · subst hs; exact h.lnew s' hne
    · simp only [other s' hs] at hs'; exact h.lnew s' hs'
  · have ne : ∀ s', fnd [] (ins s cs st.lo) s' ≠ [] → fnd [] st.lo s' ≠ [] := by
      intro s' hs'
      by_cases hs : s' = s
      · subst hs; exact hne
      · rwa [other s' hs] at hs'
    exact h.linj s1 s2 (ne s1 h1) (ne s2 h2) he

/-- An object's row is written. -/
def Env.wr2 (E : Env) (id : Nat) (cs : List AV) (row : Array Value) : Env := { E with hp := E.hp.set id (.cells cs), w := E.w.setRow (E.blk id) row }
theorem set_get {hp : List AO} {id i : Nat} {o x : AO} (h : (hp.set id o)[i]? = some x) : (i = id ∧ x = o ∧ id < hp.length) ∨ (i ≠ id ∧ hp[i]? = some x) := by
  rw [List.getElem?_set] at h
  split at h
  · rename_i he
    split at h
    · cases h; exact .inl ⟨he.symm, rfl, by assumption⟩
    · cases h
  · rename_i hne; exact .inr ⟨fun e => hne e.symm, h⟩
theorem store2 (hw : WR E) {id o : Nat} {x : AV} {v : Value} {ds cs : List AV} (hid : E.hp[id]? = some (.cells ds)) (hm : x.mem = true) (hx : RV E x v) (hu : upd o x.cells ds = some cs) :
    ∃ cur te, E.w.heap[E.blk id]? = some (.cells cur te (0, 0)) ∧ o + v.cells.toList.length ≤ cur.size ∧ Le E (E.wr2 id cs (wrow cur o v.cells.toList)) ∧ Kept E (E.wr2 id cs (wrow cur o v.cells.toList)) ∧ WR (E.wr2 id cs (wrow cur o v.cells.toList)) := by
  obtain ⟨cur, te, hcur, hsz, hle, hcs⟩ := hw.cells id ds hid
  obtain ⟨hfit, hnew⟩ := csr_wrow hle hcs (rv_csl hx hm) hu
  have hlen := (upd_spec hu).1
  have hl : Le E (E.wr2 id cs (wrow cur o v.cells.toList)) := by
    refine ⟨by simp [Env.wr2], fun _ _ => rfl, fun _ _ => rfl, fun _ _ => rfl, by simp [Env.wr2, size_setRow], rfl, rfl, rfl, fun b => frz_setRow _ _ _ b, fun i hi hx => ?_, fun i cs' hi hx => ?_, fun _ h => h, fun _ h _ => h, fun i o' hi ho _ => ?_, fun b k u hs hc => ?_⟩
    · rcases set_get hx with ⟨_, h2, _⟩ | ⟨_, h2⟩
      · cases h2
      · exact h2
    · rcases set_get hx with ⟨h1, _, _⟩ | ⟨_, h2⟩
      · exact ⟨ds, h1 ▸ hid⟩
      · exact ⟨cs', h2⟩
    · have ho : (E.hp.set id (.cells cs))[i]? = some o' := ho
      rw [List.getElem?_eq_none (by simpa using hi)] at ho; cases ho
    · have hb : b ≠ E.blk id := fun e => hs.mu ⟨id, ds, hid, e.symm⟩
      show (E.w.setRow _ _).cell? _ = _
      rw [cell_same (setRow_other E.w _ b _ hb)]; exact hc
  refine ⟨cur, te, hcur, hfit, hl, fun b hb hn => setRow_other _ _ _ _ (fun e => hn id _ hid (by simp) e.symm), ⟨fun j hj => ?_, fun j cs' hj => ?_, fun i j o1 o2 hi hj h1 h2 he => ?_, fun i o1 hi h1 hp => ?_, fun b hb => by simp only [Env.wr2, size_setRow]; exact hw.prlt b hb⟩⟩
  · rcases set_get hj with ⟨_, h2, _⟩ | ⟨hne, h2⟩
    · cases h2
    · obtain ⟨c', te', h1, h3, h4⟩ := hw.tok j h2
      exact ⟨c', te', (setRow_other E.w _ (E.blk j) _ (fun e => hne (hw.inj j id _ _ h2 hid (by simp) (by simp) e))).trans h1, h3, h4⟩
  · rcases set_get hj with ⟨rfl, h2, _⟩ | ⟨hne, h2⟩
    · cases h2
      refine ⟨_, te, setRow_heap _ _ _ _ _ _ hcur, by rw [wrow_size hfit]; exact hsz, by rw [wrow_size hfit]; omega, fun k y hk => ?_⟩
      obtain ⟨u, hu1, hu2, hu3⟩ := hnew k y hk
      exact ⟨u, hu1, hu2, hu3.le hl⟩
    · obtain ⟨c', te', h1, h3, h4, h5⟩ := hw.cells j cs' h2
      refine ⟨c', te', (setRow_other E.w _ (E.blk j) _ (fun e => hne (hw.inj j id _ _ h2 hid (by simp) (by simp) e))).trans h1, h3, h4, fun k y hk => ?_⟩
      obtain ⟨u, hu1, hu2, hu3⟩ := h5 k y hk
      exact ⟨u, hu1, hu2, hu3.le hl⟩
  · have old : ∀ (i : Nat) o, (E.hp.set id (.cells cs))[i]? = some o → ∃ o', E.hp[i]? = some o' ∧ (o ≠ .dead → o' ≠ .dead) := by
      intro i o hi
      rcases set_get hi with ⟨rfl, _, _⟩ | ⟨_, h⟩
      · exact ⟨_, hid, fun _ => by simp⟩
      · exact ⟨o, h, fun h => h⟩
    obtain ⟨p1, q1, r1⟩ := old i o1 hi
    obtain ⟨p2, q2, r2⟩ := old j o2 hj
    exact hw.inj i j p1 p2 q1 q2 (r1 h1) (r2 h2) he
  · rcases set_get hi with ⟨rfl, _, _⟩ | ⟨_, h⟩
    · exact hw.npr i _ hid (by simp) hp
    · exact hw.npr i o1 h h1 hp

/-- A new object, in a block of its own. -/
theorem pushes_new (hw : WR E) {hp1 : List AO} {o : AO} {f s : Nat} {w : World} (hlen : hp1.length = E.hp.length) (hold : ∀ (i : Nat) o', hp1[i]? = some o' → o' ≠ .dead → E.hp[i]? = some o') (ho : o ≠ .dead)
    (hh : w.heap.size = E.w.heap.size + 1) (hos : w.os = E.w.os) (ht : w.tape = E.w.tape) (hout : w.output = E.w.output) (hk : ∀ k, k < E.w.heap.size → w.heap[k]? = E.w.heap[k]?) (hfz : ∀ b, frz w b = frz E.w b) : Pushes E hp1 o E.w.heap.size f s w :=
  ⟨hlen, hold, ho, .inl (Nat.le_refl _), by omega, hos, ht, hout, hfz, fun c k v _ hc => by rw [cell_same (hk c (cell_lt hc))]; exact hc⟩
theorem push_new (hw : WR E) {hp1 : List AO} {o : AO} {f s : Nat} {w : World} {cur : Array Value} {te : Nat} (hlen : hp1.length = E.hp.length) (hold : ∀ (i : Nat) o', hp1[i]? = some o' → o' ≠ .dead → E.hp[i]? = some o') (ho : o ≠ .dead)
    (hh : w.heap.size = E.w.heap.size + 1) (hos : w.os = E.w.os) (ht : w.tape = E.w.tape) (hout : w.output = E.w.output) (hk : ∀ k, k < E.w.heap.size → w.heap[k]? = E.w.heap[k]?)
    (hb : w.heap[E.w.heap.size]? = some (.cells cur te (0, 0))) (hs : cur.size = s) (hf : f ≤ s) (hcs : ∀ cs, o = .cells cs → cs.length ≤ cur.size ∧ ∀ (j : Nat) (y : AV), cs[j]? = some y → ∃ v : Value, cur[j]? = some v ∧ v.oneCell' = true ∧ RV E y v) :
    Le E (E.push hp1 o E.w.heap.size f s w) ∧ Kept E (E.push hp1 o E.w.heap.size f s w) ∧ WR (E.push hp1 o E.w.heap.size f s w) := by
  have hp := pushes_new (f := f) (s := s) hw hlen hold ho hh hos ht hout hk fun b => by
    rcases Nat.lt_trichotomy b E.w.heap.size with hl | hl | hl
    · simp only [frz]; rw [hk b hl]
    · subst hl; simp only [frz]; rw [hb]; simp
    · simp only [frz]; rw [Array.getElem?_eq_none (by omega), Array.getElem?_eq_none (by omega)]
  refine ⟨hp.le, fun b hb _ => hk b hb, hp.wr hw (fun h => by have := hw.prlt _ h; omega) (fun i o' hi hd => ?_) (fun _ => ⟨cur, te, hb, hs, by omega⟩) (fun cs he => ?_)⟩
  · have := hw.lt (hold i o' hi hd) hd
    exact ⟨hk _ this, by omega⟩
  · obtain ⟨h1, h2⟩ := hcs cs he
    refine ⟨cur, te, hb, hs, h1, fun j y hj => ?_⟩
    obtain ⟨v, hv, h3, h4⟩ := h2 j y hj
    exact ⟨v, hv, h3, h4.le hp.le⟩

/-- A new object's row stays as it is (a slice that nobody stores into). -/
theorem still_new (hw : WR E) {hp1 : List AO} {f s : Nat} {w : World} {off m : Nat} (hlen : hp1.length = E.hp.length) (hold : ∀ (i : Nat) o', hp1[i]? = some o' → o' ≠ .dead → E.hp[i]? = some o') (hh : w.heap.size = E.w.heap.size + 1) (hm : off + m ≤ f) : (E.push hp1 .tok E.w.heap.size f s w).still E.w.heap.size off m := by
  have case : ∀ (i : Nat) x, (hp1 ++ [AO.tok])[i]? = some x → x ≠ .dead → (i < E.hp.length ∧ E.hp[i]? = some x) ∨ (i = E.hp.length ∧ x = .tok) := by
    intro i x hx hd
    rcases push_get hx with ⟨h1, h2⟩ | ⟨h1, h2⟩
    · exact .inl ⟨by rw [← hlen]; exact h1, hold i x h2 hd⟩
    · exact .inr ⟨by rw [← hlen]; exact h1, h2⟩
  refine ⟨by simp only [Env.push]; omega, fun hp => by have := hw.prlt _ hp; omega, ?_, fun id hid hb => ?_⟩
  · rintro ⟨id, cs, hid, hb⟩
    rcases case id _ hid (by simp) with ⟨h1, h2⟩ | ⟨_, h2⟩
    · have := hw.lt h2 (by simp)
      simp only [Env.push, up_ne (Nat.ne_of_lt h1)] at hb
      omega
    · cases h2
  · rcases case id _ hid (by simp) with ⟨h1, h2⟩ | ⟨rfl, _⟩
    · have := hw.lt h2 (by simp)
      simp only [Env.push, up_ne (Nat.ne_of_lt h1)] at hb
      omega
    · simp only [Env.push, up_same]; exact hm
end Go.Proofs.Ytnldohnfdeineaa.Abs
/- The abstract machine and the given one: append, make. -/
namespace Go.Proofs.Ytnldohnfdeineaa.Abs
open Go

variable {P : Program} {TT : List (Nat × TI)} {E E' E0 : Env} {lb : Nat → Nat} {n : Nat} {st : St} {a : Act}

/-- What is known of a slice type's elements. -/
structure SlT (P : Program) (t e te : Nat) (i : TypeInfo) (z : Value) : Prop where
  und : P.underlying t = some (.slice te)
  info : P.info? te = some i
  size : i.size = e
  pos : 0 < e
  bytes : i.bytes ≤ 4096
  zero : i.zero = some z
  zsz : z.cells.size = e
theorem slt_of {t e : Nat} (hT : ttOk P TT = true) (h : slOk TT t e = true) : ∃ te i z, SlT P t e te i z := by
  obtain ⟨te, i, z, h1, h2, h3, h4, h5, h6, h7, _⟩ := slOk_some hT h
  exact ⟨te, i, z, h1, h2, h3, h4, h5, h6, h7⟩

theorem append_zero {t e te ty : Nat} {i z} (hs : SlT P t e te i z) {w : World} {A A' : Option Addr} {k c c' : Nat} (hk : k ≤ c) : (Builtin.append_ #[t, t] ty #[.slice A k c, .slice A' 0 c']).run P w = .ok (.slice A k c) w := by
  have hf : (Builtin.firstCells i.size 0 (.slice A' 0 c')).run P w = .ok #[] w := by
    cases A' with
    | none => exact run_firstCells_none (P := P) w _ _ _ _
    | some ad => exact run_firstCells_some (P := P) w i.size 0 ad 0 c' [] (by simp) (fun j u hj => by simp at hj)
  cases A <;> simp [Builtin.append_, run_underlying hs.und, sizeOf, typeInfo, hs.info, Builtin.lenOf, hf, hk, storeCells]

theorem append_room {t e te ty : Nat} {i z} (hs : SlT P t e te i z) {w : World} {g o k c te' : Nat} {cur : Array Value} (hg : w.heap[g]? = some (.cells cur te' (0, 0))) {ad : Addr} {m c' : Nat} {news : List Value} (hl : news.length = m * e) (hn : ∀ (j : Nat) (u : Value), news[j]? = some u → w.cell? (ad.add j) = some u)
    (h1 : ∀ u ∈ news, u.oneCell' = true) (hroom : k + m ≤ c) (hfit : o + k * e + news.length ≤ cur.size) :
    (Builtin.append_ #[t, t] ty #[.slice (some ⟨g, o, none⟩) k c, .slice (some ad) m c']).run P w = .ok (.slice (some ⟨g, o, none⟩) (k + m) c) (w.setRow g (wrow cur (o + k * e) news)) := by
  have hf := run_firstCells_some (P := P) w i.size m ad m c' news (by rw [hs.size]; exact hl) hn
  have hst := run_storeCells_at P g (o + k * e) te' news 0 cur w hg (by simpa using hfit) h1
  simp only [Nat.add_zero] at hst
  simp [Builtin.append_, run_underlying hs.und, sizeOf, typeInfo, hs.info, Builtin.lenOf, hroom, hf, Addr.add_lit, hs.size] at hst ⊢
  rw [hs.size] at hf
  simp [hf, hst, wrow]

theorem append_grow {t e te ty : Nat} {i z} (hs : SlT P t e te i z) {w : World} {A : Option Addr} {k c : Nat} {olds : List Value} (hlo : olds.length = k * e) (hA : A = none → k = 0 ∧ c = 0) (ho : ∀ ad, A = some ad → ∀ (j : Nat) (u : Value), olds[j]? = some u → w.cell? (ad.add j) = some u)
    {ad : Addr} {m c' : Nat} {news : List Value} (hl : news.length = m * e) (hn : ∀ (j : Nat) (u : Value), news[j]? = some u → w.cell? (ad.add j) = some u) (hm : 0 < m) (hg : c < k + m) (hb : k + m ≤ 4294967296) :
    ∃ nc row, (Builtin.append_ #[t, t] ty #[.slice A k c, .slice (some ad) m c']).run P w = .ok (.slice (some ⟨w.heap.size, 0, none⟩) (k + m) nc) (w.drew.alloc (.cells row te)) ∧ k + m ≤ nc ∧ nc ≤ maxLen ∧ row.size = nc * e ∧ row.toList.take ((k + m) * e) = olds ++ news := by
  have hbb : (k + m) * i.bytes ≤ 140737488355328 := by
    have h1 := Nat.mul_le_mul hb hs.bytes
    omega
  have hml : k + m ≤ maxLen := by simp only [maxLen]; omega
  have hlen : (olds ++ news).length = (k + m) * e := by rw [List.length_append, hlo, hl, Nat.add_mul]
  have fin : ∀ old : Nat, (olds.toArray ++ news.toArray ++ Builtin.zeroCells z.cells (grownCap w (k + m) old te - (k + m))).size = grownCap w (k + m) old te * e ∧
      (olds.toArray ++ news.toArray ++ Builtin.zeroCells z.cells (grownCap w (k + m) old te - (k + m))).toList.take ((k + m) * e) = olds ++ news := by
    intro old
    have hge := grownCap_ge w (k + m) old te
    constructor
    · simp only [Array.size_append, List.size_toArray, size_zeroCells, hs.zsz, hlo, hl, ← Nat.add_mul]
      congr 1; omega
    · simp only [Array.toList_append, List.append_assoc]
      rw [← List.append_assoc, ← hlen]
      exact List.take_left
  cases A with
  | none =>
    obtain ⟨rfl, rfl⟩ := hA rfl
    have ho0 : olds = [] := List.eq_nil_of_length_eq_zero (by simpa using hlo)
    subst ho0
    have hr := run_append_nil (P := P) w t ty te i z hs.und hs.info hs.zero ad m c' news (by rw [hs.size]; exact hl) hn hm (by omega) (by have := hbb; simp only [Nat.zero_add] at this; omega)
    have hf := fin 0
    simp only [Nat.zero_add] at hr hf ⊢
    refine ⟨_, _, hr, grownCap_ge w m 0 te, grownCap_le_maxLen w m 0 te (by simpa using hml), ?_, ?_⟩
    · have := hf.1; simpa using this
    · have := hf.2; simpa using this
  | some b =>
    have hr := run_append_grow (P := P) w t ty te i z hs.und hs.info hs.zero b k c olds (by rw [hs.size]; exact hlo) (ho b rfl) ad m c' news (by rw [hs.size]; exact hl) hn hg (by omega) (growslice_fits hg hbb)
    exact ⟨_, _, hr, grownCap_ge w (k + m) c te, grownCap_le_maxLen w (k + m) c te hml, (fin c).1, (fin c).2⟩

theorem htok_eq {hp : List AO} {id : Nat} (h : htok hp id = true) : hp[id]? = some .tok := by
  unfold htok at h
  split at h
  · assumption
  · cases h

theorem dead_len {hp : List AO} {id : Nat} : (hp.set id .dead).length = hp.length := by simp
theorem dead_old {hp : List AO} {id : Nat} : ∀ (i : Nat) o', (hp.set id .dead)[i]? = some o' → o' ≠ .dead → hp[i]? = some o' := by
  intro i o' hi hd
  rcases set_get hi with ⟨_, h2, _⟩ | ⟨_, h2⟩
  · exact absurd h2 hd
  · exact h2

theorem getElem?_of_take {l r : List Value} {m k : Nat} (h : l.take m = r) (hk : k < m) : l[k]? = r[k]? := by
  rw [← h, List.getElem?_take, if_pos hk]

/-- What an append leaves. -/
def Leaves (E : Env) (hp' : List AO) (r : AV) (y : Value) (w' : World) : Prop := ∃ E', E'.w = w' ∧ Le E E' ∧ Kept E E' ∧ WR E' ∧ E'.hp = hp' ∧ RV E' r y

/-- The row lies in a new block. -/
theorem leaves_tok (hw : WR E) {hp1 : List AO} {e te : Nat} {zs : List AV} {vs : List Value} {nc : Nat} {row : Array Value} (hlen : hp1.length = E.hp.length) (hold : ∀ (i : Nat) o', hp1[i]? = some o' → o' ≠ .dead → E.hp[i]? = some o') (hf : Flat E e zs vs) (h1 : zs.length ≤ nc) (h2 : nc ≤ maxLen) (h3 : row.size = nc * e) (h4 : row.toList.take (zs.length * e) = vs) :
    Leaves E (hp1 ++ [.tok]) (.sl (.own E.hp.length) e zs) (.slice (some ⟨E.w.heap.size, 0, none⟩) zs.length nc) (E.w.drew.alloc (.cells row te)) := by
  have hmul : zs.length * e ≤ nc * e := Nat.mul_le_mul_right _ h1
  have hb := heap_alloc_new E.w.drew (.cells row te)
  obtain ⟨g1, g2, g3⟩ := push_new (o := .tok) (f := zs.length * e) (s := nc * e) (w := E.w.drew.alloc (.cells row te)) hw hlen hold (by simp) (by simp) rfl rfl rfl (fun k hk => heap_alloc_old E.w.drew _ k hk) hb h3 hmul (fun cs h => by cases h)
  refine ⟨_, rfl, g1, g2, g3, rfl, mk_sl (hf.le g1) hb (fun k hk => ?_) h1 h2 (still_new hw hlen hold (by simp) (by omega)) ⟨by simp [Env.push, hlen], fun _ => ?_⟩⟩
  · have := getElem?_of_take h4 hk
    simpa using this
  · simp [Env.push, up_same]
theorem leaves_cells (hw : WR E) {hp1 : List AO} {e te : Nat} {ds : List AV} {vs : List Value} {k nc : Nat} {row : Array Value} (hlen : hp1.length = E.hp.length) (hold : ∀ (i : Nat) o', hp1[i]? = some o' → o' ≠ .dead → E.hp[i]? = some o') (hf : CsL E ds vs) (hk : vs.length = k * e) (h1 : k ≤ nc) (h2 : nc ≤ maxLen) (h3 : row.size = nc * e) (h4 : row.toList.take (k * e) = vs) :
    Leaves E (hp1 ++ [.cells ds]) (.arr E.hp.length e 0 k) (.slice (some ⟨E.w.heap.size, 0, none⟩) k nc) (E.w.drew.alloc (.cells row te)) := by
  have hmul : k * e ≤ nc * e := Nat.mul_le_mul_right _ h1
  have hb := heap_alloc_new E.w.drew (.cells row te)
  obtain ⟨g1, g2, g3⟩ := push_new (o := .cells ds) (f := 0) (s := nc * e) (w := E.w.drew.alloc (.cells row te)) hw hlen hold (by simp) (by simp) rfl rfl rfl (fun k hk => heap_alloc_old E.w.drew _ k hk) hb h3 (Nat.zero_le _) (fun cs h => by
    cases h
    refine ⟨by rw [h3, ← hf.1, hk]; exact hmul, fun j y hj => ?_⟩
    obtain ⟨v, hv, r⟩ := hf.2 j y hj
    have hjl := lt_of_get hv
    have := getElem?_of_take h4 (show j < k * e by omega)
    exact ⟨v, by rw [hv] at this; simpa using this, r⟩)
  refine ⟨_, rfl, g1, g2, g3, rfl, ?_⟩
  have := RV.arr (E := E.push hp1 (.cells ds) E.w.heap.size 0 (nc * e) (E.w.drew.alloc (.cells row te))) (id := E.hp.length) (e := e) (off := 0) (n := k) (cap := nc) (by simp [Env.push, hlen]) h1 h2 (by simp [Env.push, up_same])
  simpa [Env.push, up_same] using this

theorem apx_run {mu : Bool} {t e ty : Nat} {s x r : AV} {sv xv : Value} {hp' : List AO} (hT : ttOk P TT = true) (ht : slOk TT t e = true) (hw : WR E) (hs : RT E lb s sv) (hx : RT E lb x xv) (h : apx mu e E.hp s x = some (r, hp')) :
    ∃ y w', (Builtin.append_ #[t, t] ty #[sv, xv]).run P E.w = .ok y w' ∧ Leaves E hp' r y w' := by
  obtain ⟨te, i, z, hst⟩ := slt_of hT ht
  have zero : ∀ {r : AV} {tx ex : _}, x = .sl tx ex [] → (∃ A k c, sv = .slice A k c ∧ k ≤ c) → RV E r sv → apx mu e E.hp s x = some (r, E.hp) → ∃ y w', (Builtin.append_ #[t, t] ty #[sv, xv]).run P E.w = .ok y w' ∧ Leaves E E.hp r y w' := by
    rintro r tx ex rfl ⟨A, k, c, rfl, hk⟩ hr _
    obtain ⟨A', c', vs, rfl, _⟩ := rv_flat (show RV E (.sl tx ex []) xv from hx)
    exact ⟨_, _, append_zero hst hk, E, rfl, Le.refl E, Kept.refl E, hw, rfl, hr⟩
  cases x with
  | sl tx ex ys =>
    cases ys with
    | nil =>
      cases s with
      | sl tk e2 xs =>
        simp only [apx, Option.some.injEq, Prod.mk.injEq] at h
        obtain ⟨rfl, rfl⟩ := h
        have hs : RV E (.sl tk e2 xs) sv := hs
        obtain ⟨A, c, vs, he, hc, _⟩ := rv_flat hs
        exact zero rfl ⟨A, _, c, he, hc⟩ hs (by simp [apx])
      | arr id e2 off k =>
        simp only [apx, Option.some.injEq, Prod.mk.injEq] at h
        obtain ⟨rfl, rfl⟩ := h
        have hs : RV E (.arr id e2 off k) sv := hs
        refine zero rfl ?_ hs (by simp [apx])
        cases hs with
        | arr hid hlen hcap hs => exact ⟨_, _, _, rfl, hlen⟩
      | _ => simp [apx] at h
    | cons y ys =>
      obtain ⟨A', c', news, rfl, _, hfn, hA', hcn⟩ := rv_flat (show RV E (.sl tx ex (y :: ys)) xv from hx)
      cases A' with
      | none => have := (hA' rfl).1; cases this
      | some ad =>
        have hcn := hcn ad rfl
        have hmp : 0 < (y :: ys).length := by simp
        cases s with
        | sl tk e2 xs =>
          have hs : RV E (.sl tk e2 xs) sv := hs
          cases tk with
          | no => simp [apx] at h
          | cap0 =>
            simp only [apx] at h
            split at h
            · rename_i hc
              obtain ⟨rfl, hlb⟩ := hc
              obtain ⟨A, c, vs, rfl, hc1, hfs, hA, hcs⟩ := rv_flat hs
              have hx0 : xs = [] ∧ c = 0 := by
                cases A with
                | none => exact hA rfl
                | some ad0 =>
                  cases hs with
                  | sl cv hlen hcap hsz hcell hone hrel hst ht => exact ⟨List.eq_nil_of_length_eq_zero ht.1, ht.2⟩
              obtain ⟨rfl, rfl⟩ := hx0
              obtain ⟨nc, row, hr, h1, h2, h3, h4⟩ := append_grow (ty := ty) hst (A := A) (k := 0) (c := 0) (olds := []) (by simp) (fun _ => ⟨rfl, rfl⟩) (fun _ _ j u hj => by simp at hj) hfn.len hcn hmp (by omega) (by omega)
              simp only [Nat.zero_add, List.nil_append] at hr h1 h4
              refine ⟨_, _, hr, ?_⟩
              cases mu with
              | true =>
                simp only [if_true, Option.some.injEq, Prod.mk.injEq] at h
                obtain ⟨rfl, rfl⟩ := h
                exact leaves_cells hw rfl (fun _ _ h _ => h) hfn.cs hfn.len h1 h2 h3 h4
              | false =>
                simp only [Bool.false_eq_true, if_false, Option.some.injEq, Prod.mk.injEq] at h
                obtain ⟨rfl, rfl⟩ := h
                exact leaves_tok hw rfl (fun _ _ h _ => h) hfn h1 h2 h3 h4
            · cases h
          | own id =>
            simp only [apx] at h
            split at h
            · rename_i hc
              obtain ⟨_, rfl, rfl, htk, hlb⟩ := hc
              simp only [Option.some.injEq, Prod.mk.injEq] at h
              obtain ⟨rfl, rfl⟩ := h
              have hid := htok_eq htk
              obtain ⟨A, c, olds, he, hc1, hfs, hA, hcs⟩ := rv_flat hs
              subst he
              by_cases hroom : xs.length + (y :: ys).length ≤ c
              · cases hs with
                | nil h => exact absurd rfl (h id)
                | sl cv hlen hcap hsz hcell hone hrel hstl ht =>
                  rename_i b off
                  obtain ⟨_, t1⟩ := ht
                  obtain ⟨t1, t2, t3⟩ := t1 hid
                  have t2 := t2 (by omega)
                  subst t1
                  obtain ⟨cur, te', hcur, hsz2, hfil⟩ := hw.tok id hid
                  have hm1 : xs.length * e2 + (y :: ys).length * e2 = (xs.length + (y :: ys).length) * e2 := (Nat.add_mul _ _ _).symm
                  have hm2 : (xs.length + (y :: ys).length) * e2 ≤ c * e2 := Nat.mul_le_mul_right _ hroom
                  have hnl := hfn.len
                  have hfit : off + xs.length * e2 + news.length ≤ cur.size := by omega
                  have hr := append_room (ty := ty) (c' := c') hst hcur hfn.len hcn hfn.cs.one hroom hfit
                  have hrow := setRow_heap E.w (E.blk id) cur (wrow cur (off + xs.length * e2) news) te' (0, 0) hcur
                  refine ⟨_, _, hr, E.push (E.hp.set id .dead) .tok (E.blk id) (E.fil id + (y :: ys).length * e2) (E.siz id) (E.w.setRow (E.blk id) (wrow cur (off + xs.length * e2) news)), rfl, ?_⟩
                  have hp : Pushes E (E.hp.set id .dead) .tok (E.blk id) (E.fil id + (y :: ys).length * e2) (E.siz id) (E.w.setRow (E.blk id) (wrow cur (off + xs.length * e2) news)) := by
                    refine ⟨dead_len, dead_old, by simp, .inr (.inl ⟨rfl, id, hid, rfl, by omega⟩), by rw [size_setRow]; exact Nat.le_refl _, rfl, rfl, rfl, fun b => frz_setRow _ _ _ b, fun c0 k v hs0 hc0 => ?_⟩
                    by_cases hcb : c0 = E.blk id
                    · subst hcb
                      have hk := hs0.tk id hid rfl
                      rw [cell_of_heap hcur] at hc0
                      rw [cell_of_heap hrow, wrow_get hfit, if_neg (by omega)]
                      exact hc0
                    · rw [cell_same (setRow_other E.w _ _ _ hcb)]; exact hc0
                  have alive : ∀ (i : Nat) o', (E.hp.set id .dead)[i]? = some o' → o' ≠ .dead → E.hp[i]? = some o' ∧ E.blk i ≠ E.blk id := by
                    intro i o' hi hd
                    rcases set_get hi with ⟨_, h2, _⟩ | ⟨hne, h2⟩
                    · exact absurd h2 hd
                    · exact ⟨h2, fun e => hne (hw.inj i id _ _ h2 hid hd (by simp) e)⟩
                  have hle := hp.le
                  refine ⟨hle, fun b0 hb0 hn0 => setRow_other _ _ _ _ (fun e => hn0 id _ hid (by simp) e.symm), hp.wr hw (hw.npr id _ hid (by simp)) (fun i o' hi hd => ?_) (fun _ => ⟨_, te', hrow, by rw [wrow_size hfit]; exact hsz2, by rw [wrow_size hfit]; omega⟩) (fun cs h => by cases h), rfl, ?_⟩
                  · obtain ⟨_, h2⟩ := alive i o' hi hd
                    exact ⟨setRow_other _ _ _ _ h2, h2⟩
                  · have hlx : (xs ++ y :: ys).length = xs.length + (y :: ys).length := List.length_append
                    have := mk_sl (E := E.push (E.hp.set id .dead) .tok (E.blk id) (E.fil id + (y :: ys).length * e2) (E.siz id) (E.w.setRow (E.blk id) (wrow cur (off + xs.length * e2) news))) (t := .own E.hp.length) (off := off) (cap := c) ((hfs.append hfn).le hle) hrow (fun k hk => ?_) (by rw [hlx]; exact hroom) hcap ?_ ?_
                    · rw [hlx] at this; exact this
                    · rw [hlx] at hk
                      rw [wrow_get hfit, List.getElem?_append, hfs.len]
                      by_cases hk2 : k < xs.length * e2
                      · rw [if_neg (by omega), if_pos hk2]
                        have hkl : k < olds.length := by rw [hfs.len]; exact hk2
                        have := hcs _ rfl k _ (List.getElem?_eq_getElem hkl)
                        rw [Addr.add_lit, cell_of_heap hcur] at this
                        rw [this, List.getElem?_eq_getElem hkl]
                      · rw [if_pos (by omega), if_neg hk2]
                        congr 1; omega
                    · refine ⟨Nat.lt_of_lt_of_le hstl.lt (by simp only [Env.push, size_setRow]; exact Nat.le_refl _), fun hp0 => hw.npr id _ hid (by simp) hp0, ?_, fun id' hid' hb' => ?_⟩
                      · rintro ⟨id', cs', hid', hb'⟩
                        rcases push_get hid' with ⟨q1, q2⟩ | ⟨_, q2⟩
                        · obtain ⟨q3, q4⟩ := alive id' _ q2 (by simp)
                          simp only [Env.push] at hb'
                          rw [up_ne (by have := lt_of_get q3; omega)] at hb'
                          exact q4 hb'
                        · cases q2
                      · rcases push_get hid' with ⟨q1, q2⟩ | ⟨q1, _⟩
                        · obtain ⟨q3, q4⟩ := alive id' _ q2 (by simp)
                          simp only [Env.push] at hb'
                          rw [up_ne (by have := lt_of_get q3; omega)] at hb'
                          exact absurd hb' q4
                        · rw [dead_len] at q1
                          subst q1
                          simp only [Env.push, up_same]
                          rw [hlx]; omega
                    · rw [hlx]
                      refine ⟨by simp [Env.push], fun _ => ?_⟩
                      simp only [Env.push, up_same]
                      exact ⟨trivial, fun _ => by omega, t3⟩
              · obtain ⟨nc, row, hr, h1, h2, h3, h4⟩ := append_grow (ty := ty) hst hfs.len (fun h => by have := hA h; exact ⟨by rw [this.1]; rfl, this.2⟩) hcs hfn.len hcn hmp (by omega) hlb
                refine ⟨_, _, hr, ?_⟩
                have hlx : (xs ++ y :: ys).length = xs.length + (y :: ys).length := List.length_append
                rw [← hlx] at h1 h4 ⊢
                exact leaves_tok hw dead_len dead_old (hfs.append hfn) h1 h2 h3 h4
            · cases h
        | arr id e2 off k =>
          simp only [apx] at h
          split at h
          · rename_i cs hcs0
            split at h
            · rename_i hc
              obtain ⟨_, rfl, rfl, rfl, hcl, hlb⟩ := hc
              simp only [Option.some.injEq, Prod.mk.injEq] at h
              obtain ⟨rfl, rfl⟩ := h
              have hid := hcells_eq hcs0
              have hs : RV E (.arr id e2 0 k) sv := hs
              cases hs with
              | arr hidl hlen hcap hsz =>
                rename_i c
                obtain ⟨cur, te', hcur, hsz2, hcle, hcc⟩ := hw.cells id cs hid
                have hold : CsL E cs (cur.toList.take (k * e2)) := by
                  refine ⟨by simp; omega, fun j y hj => ?_⟩
                  obtain ⟨v, hv, r⟩ := hcc j y hj
                  have := lt_of_get hj
                  exact ⟨v, by rw [List.getElem?_take, if_pos (by omega)]; simpa using hv, r⟩
                have hm1 : k * e2 + (y :: ys).length * e2 = (k + (y :: ys).length) * e2 := (Nat.add_mul _ _ _).symm
                have hnl := hfn.len
                by_cases hroom : k + (y :: ys).length ≤ c
                · have hm2 : (k + (y :: ys).length) * e2 ≤ c * e2 := Nat.mul_le_mul_right _ hroom
                  have hfit : 0 + k * e2 + news.length ≤ cur.size := by omega
                  have hr := append_room (ty := ty) (c' := c') hst (o := 0) hcur hfn.len hcn hfn.cs.one hroom hfit
                  have hrow := setRow_heap E.w (E.blk id) cur (wrow cur (0 + k * e2) news) te' (0, 0) hcur
                  refine ⟨_, _, hr, E.push (E.hp.set id .dead) (.cells (cs ++ (y :: ys).flatMap AV.cells)) (E.blk id) 0 (E.siz id) (E.w.setRow (E.blk id) (wrow cur (0 + k * e2) news)), rfl, ?_⟩
                  have hp : Pushes E (E.hp.set id .dead) (.cells (cs ++ (y :: ys).flatMap AV.cells)) (E.blk id) 0 (E.siz id) (E.w.setRow (E.blk id) (wrow cur (0 + k * e2) news)) := by
                    refine ⟨dead_len, dead_old, by simp, .inr (.inr ⟨_, rfl, id, cs, hid, rfl⟩), by rw [size_setRow]; exact Nat.le_refl _, rfl, rfl, rfl, fun b => frz_setRow _ _ _ b, fun c0 k v hs0 hc0 => ?_⟩
                    have hcb : c0 ≠ E.blk id := fun e => hs0.mu ⟨id, cs, hid, e.symm⟩
                    rw [cell_same (setRow_other E.w _ _ _ hcb)]; exact hc0
                  have alive : ∀ (i : Nat) o', (E.hp.set id .dead)[i]? = some o' → o' ≠ .dead → E.hp[i]? = some o' ∧ E.blk i ≠ E.blk id := by
                    intro i o' hi hd
                    rcases set_get hi with ⟨_, h2, _⟩ | ⟨hne, h2⟩
                    · exact absurd h2 hd
                    · exact ⟨h2, fun e => hne (hw.inj i id _ _ h2 hid hd (by simp) e)⟩
                  have hle := hp.le
                  refine ⟨hle, fun b0 hb0 hn0 => setRow_other _ _ _ _ (fun e => hn0 id _ hid (by simp) e.symm), hp.wr hw (hw.npr id _ hid (by simp)) (fun i o' hi hd => ?_) (fun h => by cases h) (fun ds h => ?_), rfl, ?_⟩
                  · obtain ⟨_, h2⟩ := alive i o' hi hd
                    exact ⟨setRow_other _ _ _ _ h2, h2⟩
                  · cases h
                    refine ⟨_, te', hrow, by rw [wrow_size hfit]; exact hsz2, by rw [wrow_size hfit, List.length_append, ← hfn.cs.1]; omega, fun j u hj => ?_⟩
                    rw [wrow_get hfit]
                    rw [List.getElem?_append] at hj
                    split at hj
                    · rename_i hlt
                      rw [if_neg (by omega)]
                      obtain ⟨v, hv, ho, hrv⟩ := hcc j u hj
                      exact ⟨v, hv, ho, hrv.le hle⟩
                    · rename_i hge
                      have hjl := lt_of_get hj
                      rw [← hfn.cs.1] at hjl
                      rw [if_pos (by omega)]
                      obtain ⟨v, hv, ho, hrv⟩ := hfn.cs.2 _ u hj
                      exact ⟨v, by rw [← hv]; congr 1; omega, ho, hrv.le hle⟩
                  · have := RV.arr (E := E.push (E.hp.set id .dead) (.cells (cs ++ (y :: ys).flatMap AV.cells)) (E.blk id) 0 (E.siz id) (E.w.setRow (E.blk id) (wrow cur (0 + k * e2) news))) (id := E.hp.length) (e := e2) (off := 0) (n := k + (y :: ys).length) (cap := c) (by simp [Env.push]) hroom hcap (by simp only [Env.push, up_same]; exact hsz)
                    simpa [Env.push, up_same] using this
                · obtain ⟨nc, row, hr, h1, h2, h3, h4⟩ := append_grow (ty := ty) hst (A := some ⟨E.blk id, 0, none⟩) (k := k) (c := c) (olds := cur.toList.take (k * e2)) (by simp; omega) (fun h => by cases h) (fun ad0 had j u hj => by
                    cases had
                    rw [List.getElem?_take] at hj
                    split at hj
                    · rw [Addr.add_lit, Nat.zero_add, cell_of_heap hcur]; simpa using hj
                    · cases hj) hfn.len hcn hmp (by omega) hlb
                  refine ⟨_, _, hr, ?_⟩
                  exact leaves_cells hw dead_len dead_old (hold.append hfn.cs) (by rw [List.length_append, hold.1, hnl]; omega) h1 h2 h3 h4
            · cases h
          · cases h
        | _ => simp [apx] at h
  | _ => cases s <;> simp [apx] at h
end Go.Proofs.Ytnldohnfdeineaa.Abs
/- The abstract machine and the given one: one operation that is no call. -/
namespace Go.Proofs.Ytnldohnfdeineaa.Abs
open Go

variable {P : Program} {TT : List (Nat × TI)} {E E' E0 : Env} {lb : Nat → Nat} {n : Nat} {st : St} {a : Act}

theorem csl_made {zl : List AV} {z : Value} {k : Nat} (hz : CsR E zl z.cells) (hp : 0 < zl.length) : CsL E (List.replicate k zl).flatten (madeCells z.cells (k * zl.length)).toList := by
  have hfm : (List.replicate k zl).flatten = (List.replicate k (AV.agg zl)).flatMap AV.cells := by
    induction k with
    | zero => rfl
    | succ k ih => simp only [List.replicate_succ, List.flatten_cons, List.flatMap_cons, ih]; rfl
  have hs : ∀ x ∈ List.replicate k (AV.agg zl), x.cells.length = zl.length := by
    intro x hx
    rw [(List.mem_replicate.1 hx).2]; rfl
  rw [hfm]
  refine ⟨by simp [flat_len hs, madeCells], fun j y hj => ?_⟩
  obtain ⟨i, j', x, rfl, hj', hx, hy⟩ := flat_split hs hj
  have hlt := lt_of_get hj
  rw [flat_len hs, List.length_replicate] at hlt
  have hxe : x = .agg zl := by
    have := List.mem_of_getElem? hx
    exact (List.mem_replicate.1 this).2
  subst hxe
  obtain ⟨v, hv, ho, hr⟩ := hz.2 j' y hy
  refine ⟨v, ?_, ho, hr⟩
  have hzs := hz.1
  have hmod : (i * zl.length + j') % z.cells.size = j' := by
    rw [hzs, Nat.mul_comm, Nat.mul_add_mod, Nat.mod_eq_of_lt hj']
  simp only [madeCells, Array.getElem?_toList]
  simp [hlt, hmod]
  rw [getElem!_def, hv]

theorem mkArr_run {zl : List AV} {k : Nat} {t : Nat} {kl kc : IntKind} (hT : ttOk P TT = true) (ht : slOk TT t zl.length = true) (hz : (match udSl (lk TT t) with | some te => (match lk TT te with | some ti => zeqL zl ti.zero | none => false) | none => false) = true) (hw : WR E) (hk : k ≤ 4294967296) :
    ∃ y w', (Instr.makeSlice t (.int kl (k : Int)) (.int kc (k : Int))).run P E.w = .ok y w' ∧ Leaves E (E.hp ++ [.cells (List.replicate k zl).flatten]) (.arr E.hp.length zl.length 0 k) y w' := by
  obtain ⟨te, i, z, h1, h2, h3, h4, h5, h6, h7, ti, h8, h9, h10⟩ := slOk_some hT ht
  rw [h8] at hz
  simp only [h9] at hz
  have hzl := zeqL_eq hz
  have hb : (i.bytes : Int) * (k : Int) ≤ 281474976710656 := by
    have := Nat.mul_le_mul h5 hk
    have h' : (i.bytes * k : Nat) ≤ 281474976710656 := by omega
    rw [← Int.natCast_mul]
    omega
  have hr := run_make (P := P) E.w t te i z h1 h2 h6 kl kc (k : Int) (k : Int) (by omega) (by omega) hb (by omega)
  simp only [Int.toNat_natCast, h3] at hr
  refine ⟨_, _, hr, ?_⟩
  have hcs := csl_made (k := k) (hzl ▸ csr_zero (E := E) h10) h4
  have hblk := heap_alloc_new E.w (.cells (madeCells z.cells (k * zl.length)) te)
  have hsz : (madeCells z.cells (k * zl.length)).size = k * zl.length := by simp [madeCells]
  obtain ⟨g1, g2, g3⟩ := push_new (o := .cells (List.replicate k zl).flatten) (f := 0) (s := k * zl.length) (w := E.w.alloc (.cells (madeCells z.cells (k * zl.length)) te)) hw rfl (fun _ _ h _ => h) (by simp) (by simp) rfl rfl rfl (fun k hk => heap_alloc_old E.w _ k hk) hblk hsz (Nat.zero_le _) (fun cs h => by
    cases h
    refine ⟨by rw [← hcs.1, Array.length_toList]; exact Nat.le_refl _, fun j y hj => ?_⟩
    obtain ⟨v, hv, r⟩ := hcs.2 j y hj
    exact ⟨v, by simpa using hv, r⟩)
  refine ⟨_, rfl, g1, g2, g3, rfl, ?_⟩
  have := RV.arr (E := E.push E.hp (.cells (List.replicate k zl).flatten) E.w.heap.size 0 (k * zl.length) (E.w.alloc (.cells (madeCells z.cells (k * zl.length)) te))) (id := E.hp.length) (e := zl.length) (off := 0) (n := k) (cap := k) (by simp [Env.push]) (Nat.le_refl _) (by simp only [maxLen]; omega) (by simp [Env.push, up_same])
  simpa [Env.push, up_same] using this

theorem fill_row {tm : List (Nat × AV)} (ht : TR E lb tm a.tmps) {e : Nat} : ∀ {ps : List AR} {qs : List (Nat × Operand)} {k : Nat} {ds : List AV} {cells : Array Value}, rowOk k ps qs = true → (ps.map (AR.ev tm ·)).all (okv e) = true → cells.size = (k + ps.length) * e →
    CsL E ds (cells.toList.take (k * e)) → ds.length = k * e →
    ∃ cells', Instr.fill (fun i => some (i * e, e)) cells (qs.map fun p => (p.1, a.eval p.2)) = some cells' ∧ cells'.size = (k + ps.length) * e ∧ CsL E (ds ++ (ps.map (AR.ev tm ·)).flatMap AV.cells) (cells'.toList.take ((k + ps.length) * e))
  | [], [], k, ds, cells, _, _, hs, hc, _ => ⟨cells, rfl, by simpa using hs, by simpa using hc⟩
  | x :: ps, (i, y) :: qs, k, ds, cells, hr, hm, hs, hc, hd => by
    simp only [rowOk, Bool.and_eq_true, beq_iff_eq] at hr
    obtain ⟨⟨rfl, h1⟩, h2⟩ := hr
    simp only [List.map_cons, List.all_cons, Bool.and_eq_true] at hm
    obtain ⟨hx, hm⟩ := hm
    simp only [okv, Bool.and_eq_true, beq_iff_eq] at hx
    have hrv := (opd_rt (a := a) ht h1).rv hx.1
    have hcv := rv_csl hrv hx.1
    have hsz := (rv_cells hrv hx.1).1
    have hlen : (a.eval y).cells.toList.length = e := by rw [Array.length_toList, hsz, hx.2]
    have hke : (k + (x :: ps).length) * e = k * e + e + ps.length * e := by
      simp only [List.length_cons, Nat.add_mul, Nat.one_mul]; omega
    have hfit : k * e + 0 + (a.eval y).cells.toList.length ≤ cells.size := by rw [hs, hke, hlen]; omega
    obtain ⟨f1, f2⟩ := fold_set (k * e) (a.eval y).cells.toList 0 cells hfit
    have he : (a.eval y).cells.zipIdx.foldl (fun cs (p : Value × Nat) => cs.setIfInBounds (k * e + p.2) p.1) cells = ((a.eval y).cells.toList.zipIdx 0).foldl (fun cs (p : Value × Nat) => cs.setIfInBounds (k * e + p.2) p.1) cells := by
      rw [← Array.foldl_toList, Array.toList_zipIdx]
    generalize hc1 : ((a.eval y).cells.toList.zipIdx 0).foldl (fun cs (p : Value × Nat) => cs.setIfInBounds (k * e + p.2) p.1) cells = c1 at f1 f2 he
    have hke2 : (k + 1 + ps.length) * e = k * e + e + ps.length * e := by simp only [Nat.add_mul, Nat.one_mul]
    have hke3 : (k + 1) * e = k * e + e := by simp only [Nat.add_mul, Nat.one_mul]
    have htake : c1.toList.take ((k + 1) * e) = cells.toList.take (k * e) ++ (a.eval y).cells.toList := by
      apply List.ext_getElem?
      intro j
      rw [List.getElem?_take, List.getElem?_append, List.length_take, Array.length_toList, hke3]
      have hmin : min (k * e) cells.size = k * e := by rw [hs, hke]; omega
      rw [hmin, Array.getElem?_toList, f2 j, hlen, Nat.add_zero]
      by_cases hj : j < k * e
      · rw [if_pos (by omega), if_neg (by omega), if_pos hj, List.getElem?_take, if_pos hj, Array.getElem?_toList]
      · by_cases hj2 : j < k * e + e
        · rw [if_pos hj2, if_pos (by omega), if_neg hj]
        · rw [if_neg hj2, if_neg hj, List.getElem?_eq_none (by omega)]
    obtain ⟨c', g1, g2, g3⟩ := fill_row (k := k + 1) (ds := ds ++ (x.ev tm).cells) (cells := c1) ht h2 hm (by rw [f1, hs, hke, hke2]) (by rw [htake]; exact hc.append hcv) (by rw [List.length_append, hd, hx.2, hke3])
    refine ⟨c', ?_, by rw [g2, hke2, hke], ?_⟩
    · simp only [List.map_cons, Instr.fill]
      have hno2 : ¬ ((decide ((a.eval y).cells.size ≠ e) || decide (k * e + (a.eval y).cells.size > cells.size)) = true) := by
        simp only [Bool.or_eq_true, decide_eq_true_eq, not_or]
        rw [Array.length_toList] at hlen
        exact ⟨by simp [hlen], by rw [hs, hke, hlen]; omega⟩
      rw [if_neg hno2, he]
      exact g1
    · rw [hke, ← hke2]
      simp only [List.map_cons, List.flatMap_cons]
      rw [← List.append_assoc]
      exact g3
  | [], _ :: _, _, _, _, h, _, _, _, _ => by cases h
  | _ :: _, [], _, _, _, h, _, _, _, _ => by cases h

def mkSlR (tm : List (Nat × AV)) (e : Nat) : List AR → Option AV
  | [] => some (.sl .cap0 e [])
  | p :: ps => mkSlV e ((p :: ps).map (AR.ev tm ·))
theorem mkSl_run {e t : Nat} {ps : List AR} {qs : Array (Nat × Operand)} {tm : List (Nat × AV)} {r : AV} (hT : ttOk P TT = true) (hs : slOk TT t e = true) (ht : TR E lb tm a.tmps) (hw : WR E) (hrow : rowOk 0 ps qs.toList = true) (hn : ps.length * e ≤ 16777216)
    (h : mkSlR tm e ps = some r) :
    ∃ y c te, (Instr.buildSlice t ps.length (qs.map fun (i, x) => (i, a.eval x))).run P E.w = .ok y (E.row c te).w ∧ RV (E.row c te) r y := by
  obtain ⟨te, i, z, h1, h2, h3, h4, h5, h6, h7, _⟩ := slOk_some hT hs
  have hall : (ps.map (AR.ev tm ·)).all (okv e) = true ∧ r = .sl (if ps = [] then .cap0 else .no) e (ps.map (AR.ev tm ·)) := by
    cases ps with
    | nil => simp only [mkSlR, Option.some.injEq] at h; subst h; exact ⟨rfl, rfl⟩
    | cons p ps =>
      simp only [mkSlR, mkSlV] at h
      split at h
      · rename_i hm; cases h; exact ⟨hm, by simp⟩
      · cases h
  obtain ⟨hm, rfl⟩ := hall
  obtain ⟨c', g1, g2, g3⟩ := fill_row (k := 0) (ds := []) (a := a) (cells := (Array.range (ps.length * e)).map (fun j => (if ps.length * e = 0 then #[] else z.cells)[j % (if ps.length * e = 0 then #[] else z.cells).size]!)) ht hrow hm (by simp) (by simp [CsL]) (by simp)
  simp only [Nat.zero_add, List.nil_append] at g2 g3
  have hfl : Flat (E.row c' te) e (ps.map (AR.ev tm ·)) c'.toList := by
    refine ⟨fun x hx => ?_, ?_⟩
    · have := List.all_eq_true.1 hm x hx
      simp only [okv, Bool.and_eq_true, beq_iff_eq] at this
      exact this.2
    · have e1 : c'.toList.take (ps.length * e) = c'.toList := List.take_of_length_le (by rw [Array.length_toList, g2]; exact Nat.le_refl _)
      rw [e1] at g3
      exact g3.le (adds_row E c' te).le
  refine ⟨.slice (some ⟨E.w.heap.size, 0, none⟩) ps.length ps.length, c', te, ?_, ?_⟩
  · have hno : ¬ (ps.length * e > 2 ^ 24) := by omega
    have hq : (qs.map fun (i, x) => (i, a.eval x)).toList = qs.toList.map fun p => (p.1, a.eval p.2) := by simp [Array.toList_map]
    unfold Instr.buildSlice
    simp only [Sem.run_bind, run_underlying h1, Result.andThen_ok, sizeOf, typeInfo, run_program, h2, Sem.run_pure, h3]
    rw [if_neg hno]
    simp only [Sem.run_bind, Sem.run_pure, Result.andThen_ok, hq]
    by_cases h0 : ps.length * e = 0
    · simp only [h0, if_true] at g1 ⊢
      simp only [Sem.run_pure, Result.andThen_ok, g1, newRow, Sem.run_bind, run_newObj]
      rfl
    · simp only [h0, if_false] at g1 ⊢
      simp only [Sem.run_bind, zeroValue, typeInfo, run_program, h2, h6, Sem.run_pure, Result.andThen_ok, g1, newRow, run_newObj]
      rfl
  · have := mk_sl (t := if ps = [] then .cap0 else .no) (off := 0) (cap := ps.length) hfl (row_block E c' te) (fun k hk => by simp) (by simp) (by simp only [maxLen]; have := Nat.le_mul_of_pos_right ps.length h4; omega) (still_row hw c' te _ _) (by
      split
      · rename_i he; subst he; exact ⟨rfl, rfl⟩
      · trivial)
    simpa using this

theorem srcC_run {e m : Nat} {y : AV} {yv : Value} {cells : List AV} (hw : WR E) (hy : RT E lb y yv) (h : srcC E.hp e y = some (m, cells)) :
    ∃ A c vs, yv = .slice A m c ∧ CsL E cells vs ∧ vs.length = m * e ∧ (A = none → m = 0) ∧ (∀ ad, A = some ad → ∀ (j : Nat) (u : Value), vs[j]? = some u → E.w.cell? (ad.add j) = some u) := by
  cases y with
  | sl t e' xs =>
    simp only [srcC] at h
    split at h
    · rename_i he
      subst he
      simp only [Option.some.injEq, Prod.mk.injEq] at h
      obtain ⟨rfl, rfl⟩ := h
      obtain ⟨A, c, vs, rfl, hc, hf, hA, hcs⟩ := rv_flat (show RV E (.sl t e' xs) yv from hy)
      exact ⟨A, c, vs, rfl, hf.cs, hf.len, fun h => by rw [(hA h).1]; rfl, hcs⟩
    · cases h
  | arr id e' off k =>
    simp only [srcC] at h
    split at h
    · rename_i he
      subst he
      simp only [Option.bind_eq_some_iff, Option.map_eq_some_iff, Prod.mk.injEq] at h
      obtain ⟨cs, hid, l, hl, rfl, rfl⟩ := h
      have hid := hcells_eq hid
      obtain ⟨s1, s2⟩ := sub_spec hl
      obtain ⟨cur, te, hcur, hsz, hle, hcs⟩ := hw.cells id cs hid
      have hy : RV E (.arr id e' off k) yv := hy
      have get : ∀ j, j < k * e' → ∃ y v, l[j]? = some y ∧ cur[off + j]? = some v ∧ v.oneCell' = true ∧ RV E y v := by
        intro j hj
        have h1 := s2 j hj
        have h2 : l[j]? = some l[j] := List.getElem?_eq_getElem _
        rw [h2] at h1
        obtain ⟨v, g1, g2, g3⟩ := hcs _ _ h1.symm
        exact ⟨_, v, h2, g1, g2, g3⟩
      cases hy with
      | arr h1 h2 h3 h4 =>
        rename_i cap
        refine ⟨_, cap, (List.range (k * e')).map fun j => cur.getD (off + j) undef, rfl, ⟨by simp [s1], fun j y hj => ?_⟩, by simp, fun h => (by cases h), fun ad had j u hj => ?_⟩
        · have hlt := lt_of_get hj
          rw [s1] at hlt
          obtain ⟨y', v, g0, g1, g2, g3⟩ := get j hlt
          rw [hj] at g0
          cases g0
          exact ⟨v, by simp [hlt, g1], g2, g3⟩
        · cases had
          have hlt : j < k * e' := by simpa using lt_of_get hj
          obtain ⟨y', v, g0, g1, g2, g3⟩ := get j hlt
          simp [hlt, g1] at hj
          subst hj
          rw [Addr.add_lit, cell_of_heap hcur]
          exact g1
    · cases h
  | _ => simp [srcC] at h

theorem cp_run {t t2 e ty : Nat} {x y r : AV} {xv yv : Value} {hp' : List AO} (hT : ttOk P TT = true) (ht : slOk TT t e = true) (hw : WR E) (hx : RT E lb x xv) (hy : RT E lb y yv) (h : cpx e E.hp y x = some (r, hp')) :
    ∃ u w', (Builtin.copy_ #[t, t2] ty #[xv, yv]).run P E.w = .ok u w' ∧ Leaves E hp' r u w' := by
  obtain ⟨te, i, z, hst⟩ := slt_of hT ht
  cases x with
  | arr id e' off k =>
    simp only [cpx] at h
    split at h
    · rename_i he
      subst he
      simp only [Option.bind_eq_some_iff, Option.map_eq_some_iff, Prod.mk.injEq] at h
      obtain ⟨⟨m, cells⟩, hsrc, ds, hid, cs', hu, rfl, rfl⟩ := h
      have hid := hcells_eq hid
      obtain ⟨A, c, vs, rfl, hcs, hvl, hA, hread⟩ := srcC_run hw hy hsrc
      dsimp only at hu
      have hx : RV E (.arr id e' off k) xv := hx
      generalize hnn : min m k = nn at hu
      have hnm : nn * e' ≤ m * e' := Nat.mul_le_mul_right _ (by omega)
      have htk : CsL E (cells.take (nn * e')) (vs.take (nn * e')) := by
        refine ⟨by simp [hcs.1], fun j y hj => ?_⟩
        rw [List.getElem?_take] at hj ⊢
        split at hj
        · rename_i hlt; rw [if_pos hlt]; exact hcs.2 j y hj
        · cases hj
      have hvn : (vs.take (nn * e')).length = nn * e' := by rw [List.length_take]; omega
      have hxv : RV E (.agg (cells.take (nn * e'))) (.agg (vs.take (nn * e')).toArray) := .agg htk.1 htk.one fun j y v hj hv => by
        obtain ⟨v', g1, g2, g3⟩ := htk.2 j y hj
        rw [hv] at g1
        cases g1
        exact g3
      obtain ⟨cur, te', hcur, hfit, hl, hk, hw'⟩ := store2 hw hid (x := .agg (cells.take (nn * e'))) rfl hxv hu
      have e1 : (Value.agg (vs.take (nn * e')).toArray).cells.toList = vs.take (nn * e') := by simp [Value.cells]
      rw [e1] at hfit hl hk hw'
      cases hx with
      | arr h1 h2 h3 h4 =>
        rename_i cap
        refine ⟨.int .i64 (nn : Nat), E.w.setRow (E.blk id) (wrow cur off (vs.take (nn * e'))), ?_, _, rfl, hl, hk, hw', rfl, .int⟩
        have hf : (Builtin.firstCells i.size nn (.slice A m c)).run P E.w = .ok (vs.take (nn * e')).toArray E.w := by
          cases A with
          | none =>
            have := hA rfl
            have h0 : nn = 0 := by omega
            subst h0
            simpa using run_firstCells_none (P := P) E.w i.size 0 m c
          | some ad =>
            refine run_firstCells_some (P := P) E.w i.size nn ad m c _ (by rw [hst.size]; exact hvn) fun j u hj => ?_
            rw [List.getElem?_take] at hj
            split at hj
            · exact hread ad rfl j u hj
            · cases hj
        have hsto := run_storeCells_at P (E.blk id) off te' (vs.take (nn * e')) 0 cur E.w hcur (by simpa using hfit) htk.one
        simp only [Nat.add_zero] at hsto
        have hmin : Nat.min m k = nn := hnn
        simp only [Builtin.copy_, List.getElem?_toArray, List.getElem?_cons_zero, List.getElem?_cons_succ, Sem.run_bind, Sem.run_pure, Result.andThen_ok, run_underlying hst.und, sizeOf, typeInfo, run_program, hst.info, Builtin.lenOf, hmin, hf, hsto, wrow, goInt]
    · cases h
  | _ => simp [cpx] at h
end Go.Proofs.Ytnldohnfdeineaa.Abs
/- The abstract machine and the given one: one operation. -/
namespace Go.Proofs.Ytnldohnfdeineaa.Abs
open Go

variable {P : Program} {TT : List (Nat × TI)} {E E' E0 : Env} {lb : Nat → Nat} {n : Nat} {st : St} {a : Act}

/-- Behind an operation that is no call. -/
def After (P : Program) (E0 E : Env) (n : Nat) (st' : St) (o : Oper) (a : Act) : Prop :=
  ∃ nx E' lb', (execOp a.eval o).run P E.w = .ok nx E'.w ∧ ∃ a', SR E0 E' lb' n st' a' ∧ ((∃ x, nx = .value x ∧ a' = a.put o.dst x) ∨ (nx = .skip ∧ a' = a.put o.dst undef))

theorem after_value {st' : St} {o : Oper} {x : Value} {lb' : Nat → Nat} (h : (execOp a.eval o).run P E.w = .ok (.value x) E'.w) (hs : SR E0 E' lb' n st' (a.put o.dst x)) : After P E0 E n st' o a := ⟨_, E', lb', h, _, hs, .inl ⟨x, rfl, rfl⟩⟩

theorem SR.leaves (h : SR E0 E lb n st a) {hp' : List AO} {r : AV} {y : Value} {w' : World} {d : Option Nat} (hl : Leaves E hp' r y w') (hd : ∀ k, d = some k → k < n) : ∃ E', E'.w = w' ∧ SR E0 E' lb n ⟨putT st.tm d r, st.lo, hp'⟩ (a.put d y) := by
  obtain ⟨E', hw, h1, h2, h3, h4, h5⟩ := hl
  subst h4
  exact ⟨E', hw, (h.move h1 h2 h3).put hd (RT.of_rv h5)⟩

theorem exec_sv {o : Oper} {s : Sem Value} {x : Value} {w w' : World} (h : execOp a.eval o = (do pure (.value (← s)))) (hr : s.run P w = .ok x w') : (execOp a.eval o).run P w = .ok (.value x) w' := by
  rw [h, Sem.run_bind, hr]; rfl

theorem storeL_some {st : St} {s : Nat} {b : Bool} {x : Option (List AV)} {st' : St} (h : storeL st s b x = some st') : b = true ∧ ∃ cs, x = some cs ∧ st' = ⟨st.tm, ins s cs st.lo, st.hp⟩ := by
  cases b <;> cases x <;> simp [storeL] at h
  exact ⟨rfl, _, rfl, h.symm⟩
theorem storeP_some {st : St} {s : Nat} {b : Bool} {x : Option (List AV)} {st' : St} (h : storeP st s b x = some st') : b = true ∧ ∃ cs, x = some cs ∧ st' = ⟨st.tm, st.lo, st.hp.set s (.cells cs)⟩ := by
  cases b <;> cases x <;> simp [storeP] at h
  exact ⟨rfl, _, rfl, h.symm⟩

theorem boxLd_some {st : St} {d : Nat} {cs : List AV} {b : Bool} {st' : St} (h : boxLd st d cs b = some st') : b = true ∧ st' = ⟨ins d (.loc d 0) st.tm, ins d cs st.lo, st.hp⟩ := by
  cases b <;> simp [boxLd] at h
  exact ⟨rfl, h.symm⟩
theorem storeSV_some {st : St} {s n : Nat} {v u : AV} {st' : St} (h : storeSV st s n v u = some st') : storeV st n v u = some st' := by
  cases u with
  | loc s' o =>
    simp only [storeSV] at h
    cases hk : (s == s') with
    | true => rw [hk] at h; exact h
    | false => rw [hk] at h; simp [sel] at h
  | _ => simp [storeSV] at h
theorem newvar_run {t : Nat} {v : Value} {w : World} : (newVar t v).run P w = .ok ⟨w.heap.size, 0, none⟩ (w.alloc (.cells v.cells t)) := rfl

theorem heapbox (h : SR E0 E lb n st a) {cs : List AV} {c : Array Value} {te : Nat} {d : Option Nat} (hc : CsR E cs c) (hd : ∀ k, d = some k → k < n) :
    ∃ E', E'.w = E.w.alloc (.cells c te) ∧ SR E0 E' lb n (boxHp st d cs) (a.put d (.pointer (some ⟨E.w.heap.size, 0, none⟩))) := by
  have hblk := heap_alloc_new E.w (.cells c te)
  obtain ⟨g1, g2, g3⟩ := push_new (o := .cells cs) (f := 0) (s := c.size) (w := E.w.alloc (.cells c te)) h.wr rfl (fun _ _ h _ => h) (by simp) (by simp) rfl rfl rfl (fun k hk => heap_alloc_old E.w _ k hk) hblk rfl (Nat.zero_le _) (fun ds he => by
    cases he
    exact ⟨by rw [hc.1]; exact Nat.le_refl _, hc.2⟩)
  refine ⟨E.push E.hp (.cells cs) E.w.heap.size 0 c.size (E.w.alloc (.cells c te)), rfl, ?_⟩
  have hm := h.move g1 g2 g3
  have hr : RV (E.push E.hp (.cells cs) E.w.heap.size 0 c.size (E.w.alloc (.cells c te))) (.ptr E.hp.length 0) (.pointer (some ⟨E.w.heap.size, 0, none⟩)) := by
    have := RV.ptr (E := E.push E.hp (.cells cs) E.w.heap.size 0 c.size (E.w.alloc (.cells c te))) (id := E.hp.length) (off := 0) (by simp [Env.push])
    simpa [Env.push, up_same] using this
  have hp := hm.put hd (RT.of_rv (lb := lb) hr)
  have e : boxHp st d cs = St.put ⟨st.tm, st.lo, (E.push E.hp (.cells cs) E.w.heap.size 0 c.size (E.w.alloc (.cells c te))).hp⟩ d (.ptr E.hp.length 0) := by
    simp only [boxHp, St.put, Env.push, h.hp]
  rw [e]
  exact hp

theorem step_alloc {d : Option Nat} (z : List AV) {o : Oper} {st' : St} (hT : ttOk P TT = true) (h : SR E0 E lb n st a) (hd : o.dst = d) (hdn : ∀ k, d = some k → k < n) (ho : okOp TT (.alloc z) o.op = true) (hs : stepF d st (.alloc z) = some st') : After P E0 E n st' o a := by
  have hhp := h.hp
  have ht := h.tr
  obtain ⟨dst, gop, type, pos, after, guard⟩ := o
  dsimp only at hd ho
  subst hd
  cases gop <;> simp only [okOp, Bool.false_eq_true] at ho
  rename_i t
  cases hl : lk TT t with
  | none => rw [hl] at ho; cases ho
  | some ti =>
    rw [hl] at ho
    obtain ⟨i, d, zv, hi, hdd, _, _, hzv, hzr, _, _⟩ := ti_facts (lk_ok hT hl)
    simp only [stepF, boxL, Option.bind_eq_some_iff] at hs
    obtain ⟨k, rfl, hs⟩ := hs
    obtain ⟨hnl, rfl⟩ := boxLd_some hs
    have hc := csr_zero (E := E) hzr
    rw [← zeqL_eq ho] at hc
    refine after_value (E' := E.boxed zv.cells t) (x := .pointer (some ⟨E.w.heap.size, 0, none⟩)) ?_ (h.boxed (hdn k rfl) hnl hc)
    refine exec_sv (s := Instr.alloc t true (.tuple #[])) rfl ?_
    simp only [Instr.alloc, Sem.run_bind, zeroValue, typeInfo, run_program, hi, Sem.run_pure, Result.andThen_ok, hzv, newvar_run]
    rfl

theorem step_box {d : Option Nat} (x : AR) {o : Oper} {st' : St} (hT : ttOk P TT = true) (h : SR E0 E lb n st a) (hd : o.dst = d) (hdn : ∀ k, d = some k → k < n) (ho : okOp TT (.box x) o.op = true) (hs : stepF d st (.box x) = some st') : After P E0 E n st' o a := by
  have hhp := h.hp
  have ht := h.tr
  obtain ⟨dst, gop, type, pos, after, guard⟩ := o
  dsimp only at hd ho
  subst hd
  cases gop <;> simp only [okOp, Bool.false_eq_true] at ho
  rename_i t y
  simp only [stepF] at hs
  cases hm : (x.ev st.tm).mem with
  | false => rw [hm] at hs; simp [ifv] at hs
  | true =>
    rw [hm] at hs
    simp only [ifv, boxL, Option.bind_eq_some_iff] at hs
    obtain ⟨k, rfl, hs⟩ := hs
    obtain ⟨hnl, rfl⟩ := boxLd_some hs
    have hrv := (opd_rt (a := a) ht ho).rv hm
    refine after_value (E' := E.boxed (a.eval y).cells t) (x := .pointer (some ⟨E.w.heap.size, 0, none⟩)) ?_ (h.boxed (hdn k rfl) hnl (rv_cells hrv hm))
    exact exec_sv (s := Instr.box t (a.eval y)) rfl rfl

theorem step_allocH {d : Option Nat} (z : List AV) {o : Oper} {st' : St} (hT : ttOk P TT = true) (h : SR E0 E lb n st a) (hd : o.dst = d) (hdn : ∀ k, d = some k → k < n) (ho : okOp TT (.allocH z) o.op = true) (hs : stepF d st (.allocH z) = some st') : After P E0 E n st' o a := by
  have hhp := h.hp
  have ht := h.tr
  obtain ⟨dst, gop, type, pos, after, guard⟩ := o
  dsimp only at hd ho
  subst hd
  cases gop <;> simp only [okOp, Bool.false_eq_true] at ho
  rename_i t
  cases hl : lk TT t with
  | none => rw [hl] at ho; cases ho
  | some ti =>
    rw [hl] at ho
    obtain ⟨i, d, zv, hi, hdd, _, _, hzv, hzr, _, _⟩ := ti_facts (lk_ok hT hl)
    simp only [stepF, Option.some.injEq] at hs
    subst hs
    have hc := csr_zero (E := E) hzr
    rw [← zeqL_eq ho] at hc
    obtain ⟨E', he, hsr⟩ := heapbox (te := t) h hc hdn
    refine after_value (E' := E') (x := .pointer (some ⟨E.w.heap.size, 0, none⟩)) ?_ hsr
    rw [he]
    refine exec_sv (s := Instr.alloc t true (.tuple #[])) rfl ?_
    simp only [Instr.alloc, Sem.run_bind, zeroValue, typeInfo, run_program, hi, Sem.run_pure, Result.andThen_ok, hzv, newvar_run]

theorem step_boxH {d : Option Nat} (x : AR) {o : Oper} {st' : St} (hT : ttOk P TT = true) (h : SR E0 E lb n st a) (hd : o.dst = d) (hdn : ∀ k, d = some k → k < n) (ho : okOp TT (.boxH x) o.op = true) (hs : stepF d st (.boxH x) = some st') : After P E0 E n st' o a := by
  have hhp := h.hp
  have ht := h.tr
  obtain ⟨dst, gop, type, pos, after, guard⟩ := o
  dsimp only at hd ho
  subst hd
  cases gop <;> simp only [okOp, Bool.false_eq_true] at ho
  rename_i t y
  simp only [stepF] at hs
  cases hm : (x.ev st.tm).mem with
  | false => rw [hm] at hs; simp [ifv] at hs
  | true =>
    rw [hm] at hs
    simp only [ifv, Option.some.injEq] at hs
    subst hs
    have hrv := (opd_rt (a := a) ht ho).rv hm
    obtain ⟨E', he, hsr⟩ := heapbox (te := t) h (rv_cells hrv hm) hdn
    refine after_value (E' := E') (x := .pointer (some ⟨E.w.heap.size, 0, none⟩)) ?_ hsr
    rw [he]
    exact exec_sv (s := Instr.box t (a.eval y)) rfl rfl

theorem step_mkSl {d : Option Nat} (e : Nat) (ps : List AR) {o : Oper} {st' : St} (hT : ttOk P TT = true) (h : SR E0 E lb n st a) (hd : o.dst = d) (hdn : ∀ k, d = some k → k < n) (ho : okOp TT (.mkSl e ps) o.op = true) (hs : stepF d st (.mkSl e ps) = some st') : After P E0 E n st' o a := by
  have hhp := h.hp
  have ht := h.tr
  obtain ⟨dst, gop, type, pos, after, guard⟩ := o
  dsimp only at hd ho
  subst hd
  cases gop <;> simp only [okOp, Bool.false_eq_true] at ho
  rename_i t m qs
  simp only [Bool.and_eq_true, beq_iff_eq, decide_eq_true_eq] at ho
  obtain ⟨⟨⟨h1, h2⟩, rfl⟩, h4⟩ := ho
  simp only [stepF] at hs
  obtain ⟨r, hr, he⟩ := Option.map_eq_some_iff.1 hs
  subst he
  have hr2 : mkSlR st.tm e ps = some r := by
    cases ps with
    | nil => simpa only [pv, mkSlR] using hr
    | cons p ps => simpa only [pv, mkSlR] using hr
  obtain ⟨y, c, te, g1, g2⟩ := mkSl_run (a := a) hT h1 ht h.wr h2 h4 hr2
  have g3 : SR E0 (E.row c te) lb n (st.put dst r) (a.put dst y) := (h.adds (adds_row E c te)).put hdn (RT.of_rv g2)
  have g4 : (execOp a.eval ⟨dst, .buildSlice t ps.length qs, type, pos, after, guard⟩).run P E.w = .ok (.value y) (E.row c te).w := by
    unfold execOp
    rw [Sem.run_bind, g1]
    rfl
  exact ⟨_, E.row c te, lb, g4, _, g3, .inl ⟨y, rfl, rfl⟩⟩

theorem step_store {d : Option Nat} (m : Nat) (x y : AR) {o : Oper} {st' : St} (hT : ttOk P TT = true) (h : SR E0 E lb n st a) (hd : o.dst = d) (hdn : ∀ k, d = some k → k < n) (ho : okOp TT (.store m x y) o.op = true) (hst : d.isNone = true) (hs : stepF d st (.store m x y) = some st') : After P E0 E n st' o a := by
  have hhp := h.hp
  have ht := h.tr
  obtain ⟨dst, gop, type, pos, after, guard⟩ := o
  dsimp only at hd ho
  subst hd
  cases gop <;> simp only [okOp, Bool.false_eq_true] at ho
  rename_i t b c
  simp only [Bool.and_eq_true] at ho
  obtain ⟨⟨h1, h2⟩, h3⟩ := ho
  have hdst : dst = none := by simpa using hst
  subst hdst
  cases hl : lk TT t with
  | none => rw [hl] at h1; cases h1
  | some ti =>
    rw [hl] at h1
    simp only [Bool.and_eq_true, beq_iff_eq, bne_iff_ne] at h1
    obtain ⟨h1, h10⟩ := h1
    obtain ⟨i, d, zv, hi, hdd, hsz, _, _, _, _, _⟩ := ti_facts (lk_ok hT hl)
    simp only [stepF] at hs
    have hx := opd_rt (a := a) ht h2
    cases hv : x.ev st.tm with
    | loc s o =>
      rw [hv] at hs hx
      simp only [storeV] at hs
      obtain ⟨hok, cs, hu, rfl⟩ := storeL_some hs
      simp only [okv, Bool.and_eq_true, beq_iff_eq] at hok
      have hrv := (opd_rt (a := a) ht h3).rv hok.1
      have hx : a.eval b = .pointer (some ⟨lb s, o, none⟩) := hx
      have hs1 := (rv_cells hrv hok.1).1
      by_cases hne : fnd [] st.lo s = []
      · -- nothing is there to be written
        rw [hne] at hu
        have hu' := upd_spec hu
        simp only [List.length_nil] at hu'
        omega
      · obtain ⟨cur, te, hcur, hfit, hsr⟩ := h.store1 hok.1 hrv hu hne
        refine ⟨.skip, _, lb, ?_, a, hsr, .inr ⟨rfl, rfl⟩⟩
        have hr := store_run (P := P) hi (by rw [hs1, hok.2, hsz]; exact h1.symm) hcur hfit (fun v hv => (rv_csl hrv hok.1).one v hv)
        show (do Instr.storeAt t (a.eval b) (a.eval c); pure .skip : Sem Next).run P E.w = _
        rw [hx, Sem.run_bind, hr]
        rfl
    | ptr id o =>
      rw [hv] at hs hx
      simp only [storeV] at hs
      obtain ⟨hok, cs, hu, rfl⟩ := storeP_some hs
      simp only [okv, Bool.and_eq_true, beq_iff_eq] at hok
      obtain ⟨ds, hds, hu⟩ := Option.bind_eq_some_iff.1 hu
      have hrv := (opd_rt (a := a) ht h3).rv hok.1
      have hs1 := (rv_cells hrv hok.1).1
      have hx : RV E (.ptr id o) (a.eval b) := hx
      rw [← hhp] at hds
      obtain ⟨cur, te, hcur, hfit, g1, g2, g3⟩ := store2 h.wr (hcells_eq hds) hok.1 hrv hu
      have hr := store_run (P := P) hi (by rw [hs1, hok.2, hsz]; exact h1.symm) hcur hfit (fun v hv => (rv_csl hrv hok.1).one v hv)
      have hm := h.move g1 g2 g3
      refine ⟨.skip, E.wr2 id cs (wrow cur o (a.eval c).cells.toList), lb, ?_, a, ?_, .inr ⟨rfl, rfl⟩⟩
      · show (do Instr.storeAt t (a.eval b) (a.eval c); pure .skip : Sem Next).run P E.w = _
        generalize hb : a.eval b = q at hx
        cases hx with
        | ptr hid => rw [Sem.run_bind, hr]; rfl
      · rw [← hhp]; exact hm
    | _ => rw [hv] at hs; simp [storeV] at hs

theorem step_app {d : Option Nat} (mu : Bool) (e : Nat) (s x : AR) {o : Oper} {st' : St} (hT : ttOk P TT = true) (h : SR E0 E lb n st a) (hd : o.dst = d) (hdn : ∀ k, d = some k → k < n) (ho : okOp TT (.app mu e s x) o.op = true) (hs : stepF d st (.app mu e s x) = some st') : After P E0 E n st' o a := by
  have hhp := h.hp
  have ht := h.tr
  obtain ⟨dst, gop, type, pos, after, guard⟩ := o
  dsimp only at hd ho
  subst hd
  cases gop <;> simp only [okOp, Bool.false_eq_true] at ho
  rename_i c
  obtain ⟨callee, args, ts⟩ := c
  obtain ⟨args⟩ := args
  obtain ⟨ts⟩ := ts
  cases callee <;> try (cases ho; done)
  rename_i bi
  cases bi <;> try (cases ho; done)
  simp only [okOp] at ho
  split at ho
  · rename_i b c t u
    simp only [Bool.and_eq_true, beq_iff_eq] at ho
    obtain ⟨⟨⟨rfl, h1⟩, h2⟩, h3⟩ := ho
    simp only [stepF] at hs
    obtain ⟨⟨r, hp'⟩, hr, rfl⟩ := Option.map_eq_some_iff.1 hs
    rw [← hhp] at hr
    obtain ⟨y, w', hrun, hl⟩ := apx_run (ty := type) hT h1 h.wr (opd_rt (a := a) ht h2) (opd_rt (a := a) ht h3) hr
    obtain ⟨E', he, hsr⟩ := h.leaves hl hdn
    refine after_value (E' := E') (x := y) ?_ hsr
    rw [he]
    simp only [execOp, resolve, invoke, builtin, Sem.run_bind, Sem.run_pure, Result.andThen_ok, List.map_toArray, List.map_cons, List.map_nil, hrun]
  · cases ho

theorem step_cp {d : Option Nat} (e : Nat) (x y : AR) {o : Oper} {st' : St} (hT : ttOk P TT = true) (h : SR E0 E lb n st a) (hd : o.dst = d) (hdn : ∀ k, d = some k → k < n) (ho : okOp TT (.cp e x y) o.op = true) (hs : stepF d st (.cp e x y) = some st') : After P E0 E n st' o a := by
  have hhp := h.hp
  have ht := h.tr
  obtain ⟨dst, gop, type, pos, after, guard⟩ := o
  dsimp only at hd ho
  subst hd
  cases gop <;> simp only [okOp, Bool.false_eq_true] at ho
  rename_i c
  obtain ⟨callee, args, ts⟩ := c
  obtain ⟨args⟩ := args
  obtain ⟨ts⟩ := ts
  cases callee <;> try (cases ho; done)
  rename_i bi
  cases bi <;> try (cases ho; done)
  simp only [okOp] at ho
  split at ho
  · rename_i b c t u
    simp only [Bool.and_eq_true, beq_iff_eq] at ho
    obtain ⟨⟨h1, h2⟩, h3⟩ := ho
    simp only [stepF] at hs
    obtain ⟨⟨r, hp'⟩, hr, rfl⟩ := Option.map_eq_some_iff.1 hs
    rw [← hhp] at hr
    obtain ⟨y, w', hrun, hl⟩ := cp_run (ty := type) (t2 := u) hT h1 h.wr (opd_rt (a := a) ht h2) (opd_rt (a := a) ht h3) hr
    obtain ⟨E', he, hsr⟩ := h.leaves hl hdn
    refine after_value (E' := E') (x := y) ?_ hsr
    rw [he]
    simp only [execOp, resolve, invoke, builtin, Sem.run_bind, Sem.run_pure, Result.andThen_ok, List.map_toArray, List.map_cons, List.map_nil, hrun]
  · cases ho

theorem step_mkArr {d : Option Nat} (z : List AV) (m : AR) {o : Oper} {st' : St} (hT : ttOk P TT = true) (h : SR E0 E lb n st a) (hd : o.dst = d) (hdn : ∀ k, d = some k → k < n) (ho : okOp TT (.mkArr z m) o.op = true) (hs : stepF d st (.mkArr z m) = some st') : After P E0 E n st' o a := by
  have hhp := h.hp
  have ht := h.tr
  obtain ⟨dst, gop, type, pos, after, guard⟩ := o
  dsimp only at hd ho
  subst hd
  cases gop <;> simp only [okOp, Bool.false_eq_true] at ho
  rename_i t l c
  rw [Bool.and_eq_true, Bool.and_eq_true, Bool.and_eq_true] at ho
  obtain ⟨⟨⟨h1, h2⟩, h3⟩, h4⟩ := ho
  simp only [stepF] at hs
  have hl := opd_rt (a := a) ht h3
  have hc := opd_rt (a := a) ht h4
  cases hv : m.ev st.tm with
  | int k j =>
    rw [hv] at hs hl hc
    simp only [mkArrV] at hs
    split at hs
    · rename_i hj
      simp only [Option.some.injEq] at hs
      subst hs
      have hl := rt_int hl
      have hc := rt_int hc
      obtain ⟨y, w', hrun, hlv⟩ := mkArr_run (k := j.toNat) (kl := k) (kc := k) hT h1 h2 h.wr (by omega)
      rw [Int.toNat_of_nonneg hj.1] at hrun
      rw [hhp] at hlv
      obtain ⟨E', he, hsr⟩ := h.leaves hlv hdn
      refine after_value (E' := E') (x := y) ?_ hsr
      rw [he]
      refine exec_sv (s := Instr.makeSlice t (a.eval l) (a.eval c)) rfl ?_
      rw [hl, hc]; exact hrun
    · cases hs
  | _ => rw [hv] at hs; simp [mkArrV] at hs
theorem step_run {d : Option Nat} {op : AOp} {o : Oper} {st' : St} (hT : ttOk P TT = true) (h : SR E0 E lb n st a) (hd : o.dst = d) (hdn : ∀ k, d = some k → k < n) (ho : okOp TT op o.op = true) (hst : stOk d op = true) (hs : stepF d st op = some st') : After P E0 E n st' o a := by
  have generic : quiet op = true → (pv st.tm st.lo st.hp op).map (st.put d) = some st' → After P E0 E n st' o a := by
    intro hq hm
    obtain ⟨r, hr, rfl⟩ := Option.map_eq_some_iff.1 hm
    rw [← h.hp] at hr
    obtain ⟨x, h1, h2⟩ := quiet_run hT h.wr h.tr h.lr hq ho hr
    exact after_value h1 (by rw [hd]; exact h.put hdn h2)
  cases op
  case alloc z => exact step_alloc z hT h hd hdn ho hs
  case box x => exact step_box x hT h hd hdn ho hs
  case allocH z => exact step_allocH z hT h hd hdn ho hs
  case boxH x => exact step_boxH x hT h hd hdn ho hs
  case mkSl e ps => exact step_mkSl e ps hT h hd hdn ho hs
  case storeL s m x y =>
    refine step_store m x y hT h hd hdn ?_ hst (storeSV_some hs)
    have h2 := ho
    generalize o.op = gop at h2 ⊢
    cases gop <;> first | exact h2 | (cases h2; done)
  case store m x y => exact step_store m x y hT h hd hdn ho hst hs
  case app mu e s x => exact step_app mu e s x hT h hd hdn ho hs
  case cp e x y => exact step_cp e x y hT h hd hdn ho hs
  case mkArr z m => exact step_mkArr z m hT h hd hdn ho hs
  case call f args => simp [stepF, pv] at hs
  case callV f args => simp [stepF, pv] at hs
  case bad => simp [stepF, pv] at hs
  all_goals exact generic rfl hs
end Go.Proofs.Ytnldohnfdeineaa.Abs
/- The abstract machine and the given one: calls, regions in the text's order. -/
namespace Go.Proofs.Ytnldohnfdeineaa.Abs
open Go

variable {P : Program} {TT : List (Nat × TI)} {E E' E0 : Env} {lb : Nat → Nat} {n : Nat} {st : St} {a : Act}

def Known (P : Program) (f : FuncId) : Prop := ∃ fn, P.funcs[f]? = some fn ∧ (fn.name == "runtime.NumGoroutine") = false ∧ fn.body.isNone = false

/-- How a call ends. -/
def Ends (E' : Env) (Q : ARes → List AO → Prop) (e : Ending) : Prop :=
  (∃ v x, e = .returned x ∧ RV E' v x ∧ Q (.ret v) E'.hp) ∨ (∃ v x, e = .panicked [{ v := x, recovered := false }] ∧ RV E' v x ∧ Q (.pan v) E'.hp)

/-- The machine's call does what the abstract one does, whatever the memory. -/
def Sim (P : Program) : CallRel := fun f args hp Q => Known P f ∧ ∀ (E : Env) (vals : List Value), E.hp = hp → WR E → CsV E args vals → Calls P f vals.toArray E.w fun e w' => ∃ E', E'.w = w' ∧ WR E' ∧ Le E E' ∧ Kept E E' ∧ Ends E' Q e
where
  CsV (E : Env) (args : List AV) (vals : List Value) : Prop := vals.length = args.length ∧ ∀ (j : Nat) (y : AV) (v : Value), args[j]? = some y → vals[j]? = some v → RV E y v

theorem Sim.mono : CMono (Sim P) := by
  intro f args hp Q Q' h hq
  refine ⟨h.1, fun E vals h1 h2 h3 => (h.2 E vals h1 h2 h3).mono ?_⟩
  rintro e w' ⟨E', g1, g2, g3, g4, g5⟩
  refine ⟨E', g1, g2, g3, g4, ?_⟩
  rcases g5 with ⟨v, x, r1, r2, r3⟩ | ⟨v, x, r1, r2, r3⟩
  · exact .inl ⟨v, x, r1, r2, hq _ _ r3⟩
  · exact .inr ⟨v, x, r1, r2, hq _ _ r3⟩

theorem callFunc_run {f : FuncId} {args : Array Value} {w : World} (h : Known P f) : (callFunc f args).run P w = .ok (.enter f args) w := by
  obtain ⟨fn, h1, h2, h3⟩ := h
  have h2 : ¬ fn.name = "runtime.NumGoroutine" := by simpa using h2
  have h3 : ¬ fn.body = none := fun e => by rw [e] at h3; cases h3
  simp [callFunc, h1, h2, h3]

/-- The concrete posts that the abstract ones stand for. -/
structure QR (E0 : Env) (n : Nat) (Qa : APost) (Qc : Exit → Act → World → Prop) : Prop where
  normal : ∀ E lb st a, SR E0 E lb n st a → Qa .normal st → Qc .normal a E.w
  exit : ∀ id E lb st a, SR E0 E lb n st a → Qa (.exit id) st → Qc (.exit id) a E.w
  ret : ∀ E lb st a, SR E0 E lb n st a → Qa .ret st → Qc .ret a E.w
  pan : ∀ (E : Env) a v x, Le E0 E → Kept E0 E → WR E → RV E v x → a.defers = [] → Qa (.pan v) ⟨[], [], E.hp⟩ → Qc (.panic [{ v := x, recovered := false }]) a E.w

/-- What follows an operation. -/
structure KR (E0 : Env) (n : Nat) (K : Cont) (Kp : AV → List AO → Prop) (Kc : Act → World → Prop) (Qc : Exit → Act → World → Prop) : Prop where
  next : ∀ E lb st a, SR E0 E lb n st a → K st → Kc a E.w
  pan : ∀ (E : Env) a v x, Le E0 E → Kept E0 E → WR E → RV E v x → a.defers = [] → Kp v E.hp → Qc (.panic [{ v := x, recovered := false }]) a E.w

theorem call_sound {f : FuncId} {args : List AV} {vals : List Value} {d : Option Nat} {K : Cont} {Kp : AV → List AO → Prop} {Kc : Act → World → Prop} {Qc : Exit → Act → World → Prop} (h : SR E0 E lb n st a) (hk : KR E0 n K Kp Kc Qc) (hdn : ∀ k, d = some k → k < n)
    (hc : Sim P f args st.hp (retK d st K Kp)) (hv : Sim.CsV E args vals) :
    Calls P f vals.toArray E.w fun
      | .returned v, w'' => Kc (a.put d v) w''
      | .panicked chain, w'' => Qc (.panic chain) a w''
      | .outgrown, _ => LetsOut Qc := by
  refine (hc.2 E vals h.hp h.wr hv).mono ?_
  rintro e w' ⟨E', rfl, g2, g3, g4, g5⟩
  have hm := h.move g3 g4 g2
  rcases g5 with ⟨v, x, rfl, r2, r3⟩ | ⟨v, x, rfl, r2, r3⟩
  · exact hk.next E' lb _ _ (hm.put hdn (RT.of_rv r2)) r3
  · exact hk.pan E' a v x hm.le hm.kp g2 r2 h.dfs r3

theorem rt_no {x : Value} (h : RT E lb (.tup []) x) : x = undef := by
  have h : RV E (.tup []) x := h
  cases h with
  | tup hl h' =>
    rename_i vs
    have : vs = [] := List.length_eq_zero_iff.1 hl
    subst this
    rfl
theorem rt_no' : RT E lb (.tup []) undef := (RV.tup (cs := []) (vs := []) rfl fun j y v h => by simp at h : RV E (.tup []) (.tuple #[]))
theorem wanted_of {ops : Array Oper} {ao : AOper} {o : Oper} {b : Bool} (ht : TR E lb st.tm a.tmps) (hg : guardOk ops ao.guard o.guard = true) (hb : (match ao.guard with | none => some true | some (g, w) => isB w (fnd .undef st.tm g)) = some b) : Region.wanted o (yielded ops a.tmps) = b := by
  cases hag : ao.guard with
  | none =>
    rw [hag] at hg hb
    cases hog : o.guard with
    | none => simp only [Option.some.injEq] at hb; simp [Region.wanted, hog, hb]
    | some x => rw [hog] at hg; simp [guardOk] at hg
  | some gw =>
    obtain ⟨g, w⟩ := gw
    rw [hag] at hg hb
    cases hog : o.guard with
    | none => rw [hog] at hg; simp [guardOk] at hg
    | some jw =>
      obtain ⟨j, w'⟩ := jw
      rw [hog] at hg
      simp only [guardOk, Bool.and_eq_true, beq_iff_eq] at hg
      obtain ⟨h1, rfl⟩ := hg
      cases ho : ops[j]? with
      | none => rw [ho] at h1; cases h1
      | some oj =>
        rw [ho] at h1
        have h1 : oj.dst = some g := by simpa using h1
        simp only at hb
        cases hv : fnd .undef st.tm g with
        | bool c =>
          rw [hv] at hb
          simp only [isB, Option.some.injEq] at hb
          have hr := ht g
          rw [hv] at hr
          have hr := rt_bool hr
          have hget : a.tmps[g]? = some (.bool c) := by
            rw [Array.getD_eq_getD_getElem?] at hr
            cases hx : a.tmps[g]? with
            | none => rw [hx] at hr; simp [undef] at hr
            | some y => rw [hx] at hr; simp at hr; rw [hr]
          have hy : yielded ops a.tmps j = some c := by simp [yielded, ho, h1, hget]
          simp only [Region.wanted, hog, hy]
          rw [← hb]
          cases c <;> cases w <;> rfl
        | tup vs =>
          rw [hv] at hb
          cases vs with
          | cons v vs => simp [isB] at hb
          | nil =>
            simp only [isB, Option.some.injEq] at hb
            subst hb
            have hr := ht g
            rw [hv] at hr
            have hr := rt_no hr
            have hy : yielded ops a.tmps j = none := by
              rw [Array.getD_eq_getD_getElem?] at hr
              cases hx : a.tmps[g]? with
              | none => simp [yielded, ho, h1, hx]
              | some y => rw [hx] at hr; simp at hr; subst hr; simp [yielded, ho, h1, hx, undef]
            simp [Region.wanted, hog, hy]
        | _ => rw [hv] at hb; simp [isB] at hb

theorem okOper_parts {m : Nat} {ops : Array Oper} {ao : AOper} {o : Oper} (h : okOper TT m ops ao o = true) : ao.dst = o.dst ∧ (∀ k, ao.dst = some k → k < m) ∧ okOp TT ao.op o.op = true ∧ guardOk ops ao.guard o.guard = true ∧ stOk ao.dst ao.op = true := by
  unfold okOper at h
  rw [Bool.and_eq_true, Bool.and_eq_true, Bool.and_eq_true, Bool.and_eq_true] at h
  obtain ⟨⟨⟨⟨h1, h2⟩, h3⟩, h4⟩, h5⟩ := h
  refine ⟨by simpa using h1, fun k hk => ?_, h3, h4, h5⟩
  rw [hk] at h2
  simpa using h2

/-- One operation, the guard seen to. -/
theorem op_sound {ao : AOper} {o : Oper} {ops : Array Oper} {K : Cont} {Kp : AV → List AO → Prop} {Kc : Act → World → Prop} {Qc : Exit → Act → World → Prop} (hT : ttOk P TT = true) (h : SR E0 E lb n st a) (hk : KR E0 n K Kp Kc Qc) (hok : okOper TT n ops ao o = true)
    (hw : astep (Sim P) ao.dst K Kp st ao.op) : o.wp P a E.w Kc Qc := by
  obtain ⟨h1, h2, h3, h4, h5⟩ := okOper_parts hok
  have plain : ∀ st', stepF ao.dst st ao.op = some st' → K st' → o.wp P a E.w Kc Qc := by
    intro st' hs hK
    obtain ⟨nx, E', lb', hr, a', hsr, hc⟩ := step_run hT h h1.symm h2 h3 h5 hs
    unfold Oper.wp
    rw [hr]
    rcases hc with ⟨x, rfl, rfl⟩ | ⟨rfl, rfl⟩
    · exact hk.next E' lb' _ _ hsr hK
    · exact hk.next E' lb' _ _ hsr hK
  have bind : bindT (stepF ao.dst st ao.op) K → o.wp P a E.w Kc Qc := by
    intro hb
    cases hs : stepF ao.dst st ao.op with
    | none => rw [hs] at hb; exact hb.elim
    | some st' => rw [hs] at hb; exact plain st' hs hb
  obtain ⟨adst, aop, aguard⟩ := ao
  obtain ⟨dst, gop, type, pos, after, guard⟩ := o
  dsimp only at h1 h2 h3 hw bind
  subst h1
  cases aop
  case call f args =>
    cases gop <;> try (cases h3; done)
    rename_i c
    obtain ⟨callee, bs, ts⟩ := c
    cases callee <;> try (cases h3; done)
    rename_i y
    cases y <;> try (cases h3; done)
    rename_i g
    simp only [okOp, Bool.and_eq_true, beq_iff_eq] at h3
    obtain ⟨rfl, h3⟩ := h3
    obtain ⟨hm, hc⟩ := hw
    have hv := opds_rv (a := a) h.tr h3 hm
    have hrun : (execOp a.eval ⟨adst, .call ⟨.value (.func f), bs, ts⟩, type, pos, after, guard⟩).run P E.w = .ok (.enter f (bs.toList.map a.eval).toArray) E.w := by
      have e : (#[] ++ bs.map a.eval ++ #[] : Array Value) = (bs.toList.map a.eval).toArray := by
        obtain ⟨bs⟩ := bs
        simp
      simp only [execOp, resolve, Act.eval, Deferred.ofValue, Sem.run_bind, Sem.run_pure, Result.andThen_ok, invoke, callFunc_run hc.1]
      exact congrArg (fun z => Result.ok (Next.enter f z) E.w) e
    unfold Oper.wp
    rw [hrun]
    exact call_sound h hk h2 hc hv
  case callV f args =>
    cases gop <;> try (cases h3; done)
    rename_i c
    obtain ⟨callee, bs, ts⟩ := c
    cases callee <;> try (cases h3; done)
    rename_i y
    cases y <;> try (cases h3; done)
    rename_i t
    simp only [okOp, Bool.and_eq_true] at h3
    obtain ⟨h30, h3⟩ := h3
    have hf := opd_rt (a := a) h.tr h30
    simp only [astep] at hw
    cases hfv : f.ev st.tm with
    | fn g caps =>
      rw [hfv] at hw hf
      obtain ⟨hm, hc⟩ := hw
      rw [List.all_append, Bool.and_eq_true] at hm
      have hv := opds_rv (a := a) h.tr h3 hm.1
      have hf : RV E (.fn g caps) (a.eval (.tmp t)) := hf
      generalize hq : a.eval (.tmp t) = q at hf
      cases hf with
      | fn hl hcaps =>
        rename_i vs
        have hrun : (execOp a.eval ⟨adst, .call ⟨.value (.tmp t), bs, ts⟩, type, pos, after, guard⟩).run P E.w = .ok (.enter g (bs.toList.map a.eval ++ vs).toArray) E.w := by
          have e : (#[] ++ bs.map a.eval ++ vs.toArray : Array Value) = (bs.toList.map a.eval ++ vs).toArray := by
            obtain ⟨bs⟩ := bs
            simp
          simp only [execOp, resolve, hq, Deferred.ofValue, Sem.run_bind, Sem.run_pure, Result.andThen_ok, invoke, callFunc_run hc.1]
          exact congrArg (fun z => Result.ok (Next.enter g z) E.w) e
        unfold Oper.wp
        rw [hrun]
        refine call_sound h hk h2 hc ⟨by rw [List.length_append, List.length_append, hv.1, hl], fun j y v hj hv' => ?_⟩
        rw [List.getElem?_append] at hj hv'
        rw [hv.1] at hv'
        split at hj
        · rename_i hlt
          rw [if_pos hlt] at hv'
          exact hv.2 j y v hj hv'
        · rename_i hge
          rw [if_neg hge] at hv'
          exact hcaps _ y v hj hv'
    | _ => rw [hfv] at hw; exact hw.elim
  all_goals exact bind hw

/-- Operations in an order that is given. -/
theorem ops_sound {gops : Array Oper} {aops : List AOper} (hT : ttOk P TT = true) (hok : ∀ (i : Nat) ao o, aops[i]? = some ao → gops[i]? = some o → okOper TT n gops ao o = true) (hlen : gops.size = aops.length) {K : Cont} {Kp : AV → List AO → Prop} {Qc : Exit → Act → World → Prop} (hk : KR E0 n K Kp (Qc .normal) Qc) :
    ∀ (L : List Nat), (∀ i ∈ L, i < aops.length) → ∀ {E lb st a}, SR E0 E lb n st a → awpOps (Sim P) (L.filterMap (aops[·]?)) K Kp st → wpOps P gops Qc L a E.w
  | [], _, E, lb, st, a, h, hw => by
    simp only [List.filterMap_nil, awpOps] at hw
    exact hk.next E lb st a h hw
  | i :: L, hL, E, lb, st, a, h, hw => by
    have hi := hL i List.mem_cons_self
    have hai : aops[i]? = some aops[i] := List.getElem?_eq_getElem hi
    have hgi : gops[i]? = some (gops[i]'(by rw [hlen]; exact hi)) := Array.getElem?_eq_getElem _
    rw [List.filterMap_cons, hai] at hw
    simp only at hw
    simp only [wpOps, hgi]
    have hoki := hok i _ _ hai hgi
    generalize aops[i] = ao at hw hai hoki
    generalize gops[i]'(by rw [hlen]; exact hi) = o at hgi hoki ⊢
    have ih : ∀ {E lb st a}, SR E0 E lb n st a → awpOps (Sim P) (L.filterMap (aops[·]?)) K Kp st → wpOps P gops Qc L a E.w := fun h hw => ops_sound hT hok hlen hk L (fun j hj => hL j (List.mem_cons_of_mem _ hj)) h hw
    have hk' : KR E0 n (awpOps (Sim P) (L.filterMap (aops[·]?)) K Kp) Kp (wpOps P gops Qc L) Qc := ⟨fun E lb st a h hw => ih h hw, hk.pan⟩
    obtain ⟨h1, h2, _, h4, _⟩ := okOper_parts hoki
    obtain ⟨adst, aop, agd⟩ := ao
    cases agd with
    | none =>
      simp only [awpOps] at hw
      rw [wanted_of (b := true) h.tr h4 rfl, if_pos rfl]
      exact .inl (op_sound hT h hk' hoki hw)
    | some gw =>
      obtain ⟨g, w⟩ := gw
      simp only [awpOps] at hw
      cases hb : isB w (fnd .undef st.tm g) with
      | none => rw [hb] at hw; exact hw.elim
      | some b =>
        rw [hb] at hw
        rw [wanted_of (b := b) h.tr h4 hb]
        cases b with
        | true =>
          rw [if_pos rfl]
          exact .inl (op_sound hT h hk' hoki hw)
        | false =>
          rw [if_neg (by simp)]
          have hp := h.put h2 (v := .tup []) (x := undef) rt_no'
          rw [h1] at hp
          simp only [guardK, skipK] at hw
          dsimp only at h1
          rw [h1] at hw
          exact ih hp hw
end Go.Proofs.Ytnldohnfdeineaa.Abs
/- The abstract machine and the given one: code, functions. -/
namespace Go.Proofs.Ytnldohnfdeineaa.Abs
open Go

variable {P : Program} {TT : List (Nat × TI)} {E E' E0 : Env} {lb : Nat → Nat} {n : Nat} {st : St} {a : Act}

/-- A region that draws its order: what is held of its schedules. -/
def AnyOk : Type := Array Oper → List AOper → Sch → Bool

def okCode (TT : List (Nat × TI)) (anyOk : AnyOk) (n : Nat) : ACode → Code → Bool
  | .keep _ a, c => okCode TT anyOk n a c
  | .skip, .skip => true
  | .reg _ ops, .region _ gops false => okOpers TT n gops ops gops.toList
  | .any _ ops s, .region _ gops true => okOpers TT n gops ops gops.toList && anyOk gops ops s
  | .seq a b, .seq c d => okCode TT anyOk n a c && okCode TT anyOk n b d
  | .cond x a b, .cond y c d => opdOk x y && okCode TT anyOk n a c && okCode TT anyOk n b d
  | .block i a, .block j c => i == j && okCode TT anyOk n a c
  | .loop _ a, .loop c => okCode TT anyOk n a c
  | .exit i, .exit j => i == j
  | .ret, .ret => true
  | .dead, _ => true
  | _, _ => false

theorem okOpers_get {m : Nat} {gops : Array Oper} : ∀ {aops : List AOper} {os : List Oper}, okOpers TT m gops aops os = true → os.length = aops.length ∧ ∀ (i : Nat) ao o, aops[i]? = some ao → os[i]? = some o → okOper TT m gops ao o = true
  | [], [], _ => ⟨rfl, fun i ao o h => by simp at h⟩
  | x :: xs, y :: ys, h => by
    simp only [okOpers, Bool.and_eq_true] at h
    obtain ⟨h1, h2⟩ := okOpers_get h.2
    refine ⟨by simp [h1], fun i ao o hi ho => ?_⟩
    cases i with
    | zero => simp at hi ho; rw [← hi, ← ho]; exact h.1
    | succ i => simp at hi ho; exact h2 i ao o hi ho
  | [], _ :: _, h => by cases h
  | _ :: _, [], h => by cases h

theorem filterMap_range {α : Type} : ∀ (l : List α), (List.range l.length).filterMap (l[·]?) = l
  | [] => rfl
  | x :: l => by
    rw [List.length_cons, List.range_succ_eq_map, List.filterMap_cons]
    simp only [List.getElem?_cons_zero]
    rw [List.filterMap_map]
    have e : ((fun i => (x :: l)[i]?) ∘ Nat.succ) = (l[·]?) := by
      funext i
      simp
    rw [e, filterMap_range l]

theorem QR.kr {Qa : APost} {Qc : Exit → Act → World → Prop} {live : List Nat} (hq : QR E0 n Qa Qc) : KR E0 n (regK live Qa) (panK Qa) (Qc .normal) Qc :=
  ⟨fun E lb st a h hk => hq.normal E lb _ a (h.keep live) hk, fun E a v x h1 h2 h3 h4 h5 h6 => hq.pan E a v x h1 h2 h3 h4 h5 h6⟩

/-- What is asked of the looks at regions that draw. -/
def AnySound (P : Program) (TT : List (Nat × TI)) (anyOk : AnyOk) : Prop :=
  ∀ {E0 E : Env} {lb : Nat → Nat} {n : Nat} {st : St} {a : Act} {gops : Array Oper} {aops : List AOper} {sched : Sch} {K : Cont} {Kp : AV → List AO → Prop} {Qc : Exit → Act → World → Prop} {id : Nat},
    okOpers TT n gops aops gops.toList = true → anyOk gops aops sched = true → KR E0 n K Kp (Qc .normal) Qc → SR E0 E lb n st a → locsFree st.tm aops = true → awpS (Sim P) aops K Kp sched st → (Code.region id gops true).wp P Qc a E.w

theorem QR.seq {Qa : APost} {Qc : Exit → Act → World → Prop} {k : Cont} {Kc : Act → World → Prop} (hq : QR E0 n Qa Qc) (hk : ∀ E lb st a, SR E0 E lb n st a → k st → Kc a E.w) : QR E0 n (seqQ k Qa) (Exit.then Kc Qc) :=
  ⟨hk, fun id E lb st a h h' => hq.exit id E lb st a h h', fun E lb st a h h' => hq.ret E lb st a h h', fun E a v x h1 h2 h3 h4 h5 h6 => hq.pan E a v x h1 h2 h3 h4 h5 h6⟩
theorem QR.block {Qa : APost} {Qc : Exit → Act → World → Prop} {id : Nat} (hq : QR E0 n Qa Qc) : QR E0 n (blockQ id Qa) (Exit.inBlock id Qc) := by
  refine ⟨hq.normal, fun j E lb st a h h' => ?_, hq.ret, hq.pan⟩
  simp only [blockQ] at h'
  simp only [Exit.inBlock]
  split at h'
  · rename_i hj; rw [if_pos hj]; exact hq.normal E lb st a h h'
  · rename_i hj; rw [if_neg hj]; exact hq.exit j E lb st a h h'

theorem code_sound {anyOk : AnyOk} (hT : ttOk P TT = true) (hany : AnySound P TT anyOk) : ∀ (ac : ACode) (c : Code), okCode TT anyOk n ac c = true → ∀ {Qa : APost} {Qc : Exit → Act → World → Prop}, QR E0 n Qa Qc → ∀ {E lb st a}, SR E0 E lb n st a → awp (Sim P) ac Qa st → c.wp P Qc a E.w
  | .skip, c, hc, Qa, Qc, hq, E, lb, st, a, h, hw => by
    cases c <;> first | (cases hc; done) | skip
    exact wp_skip (hq.normal E lb st a h hw)
  | .reg live ops, c, hc, Qa, Qc, hq, E, lb, st, a, h, hw => by
    cases c <;> first | (cases hc; done) | skip
    rename_i id gops draw
    cases draw <;> first | (cases hc; done) | skip
    obtain ⟨h1, h2⟩ := okOpers_get hc
    rw [Array.length_toList] at h1
    refine wp_region ?_
    refine ops_sound hT (fun i ao o hi ho => h2 i ao o hi (by simpa using ho)) h1 (hq.kr (live := live)) (List.range gops.size) (fun i hi => by rw [← h1]; exact List.mem_range.1 hi) h ?_
    rw [h1, filterMap_range]
    exact hw
  | .any live ops s, c, hc, Qa, Qc, hq, E, lb, st, a, h, hw => by
    cases c <;> first | (cases hc; done) | skip
    rename_i id gops draw
    cases draw <;> first | (cases hc; done) | skip
    simp only [okCode, Bool.and_eq_true] at hc
    exact hany hc.1 hc.2 hq.kr h hw.1 hw.2
  | .keep live x, c, hc, Qa, Qc, hq, E, lb, st, a, h, hw => code_sound hT hany x c (by simpa only [okCode] using hc) hq (h.keep live) hw
  | .seq x y, c, hc, Qa, Qc, hq, E, lb, st, a, h, hw => by
    cases c <;> first | (cases hc; done) | skip
    rename_i cx cy
    simp only [okCode, Bool.and_eq_true] at hc
    refine wp_seq ?_
    exact code_sound hT hany x cx hc.1 (hq.seq (Kc := cy.wp P Qc) (fun E lb st a h hk => code_sound hT hany y cy hc.2 hq h hk)) h hw
  | .cond x p q, c, hc, Qa, Qc, hq, E, lb, st, a, h, hw => by
    cases c <;> first | (cases hc; done) | skip
    rename_i y cp cq
    simp only [okCode, Bool.and_eq_true] at hc
    simp only [awp] at hw
    have hr := opd_rt (a := a) h.tr hc.1.1
    cases hv : x.ev st.tm with
    | bool t =>
      rw [hv] at hw hr
      have hr := rt_bool hr
      refine wp_cond_split hr (fun ht => ?_) (fun hf => ?_)
      · exact code_sound hT hany p cp hc.1.2 hq h (hw.1 ht)
      · exact code_sound hT hany q cq hc.2 hq h (hw.2 hf)
    | _ => rw [hv] at hw; exact hw.elim
  | .block id x, c, hc, Qa, Qc, hq, E, lb, st, a, h, hw => by
    cases c <;> first | (cases hc; done) | skip
    rename_i j cx
    simp only [okCode, Bool.and_eq_true, beq_iff_eq] at hc
    obtain ⟨rfl, hc⟩ := hc
    exact wp_block (code_sound hT hany x cx hc hq.block h hw)
  | .loop live x, c, hc, Qa, Qc, hq, E, lb, st, a, h, hw => by
    cases c <;> first | (cases hc; done) | skip
    rename_i cx
    simp only [okCode] at hc
    let I : Cont := fun st => ∀ E lb a, SR E0 E lb n st a → ∀ (b : Frame) (k : List Item) (cs : List Frame), ∃ e a' w', Qc e a' w' ∧ Arrives P (lone (b.at a (.code cx :: .inLoop cx :: k)) cs E.w) b k cs e a' w'
    have hI : I (st.keep live) := by
      refine hw I (fun st hst E lb a h b k cs => ?_)
      have hq' : QR E0 n (seqQ (fun st => I (st.keep live)) Qa) (Exit.then (fun a w => ∃ E lb st, SR E0 E lb n st a ∧ E.w = w ∧ I (st.keep live)) Qc) :=
        hq.seq (fun E lb st a h hk => ⟨E, lb, st, h, rfl, hk⟩)
      obtain ⟨e, a1, w1, hqe, harr⟩ := code_sound hT hany x cx hc hq' h hst b (.inLoop cx :: k) cs
      cases e with
      | normal =>
        obtain ⟨E1, lb1, st1, hs1, rfl, hI1⟩ := hqe
        obtain ⟨e2, a2, w2, hq2, harr2⟩ := hI1 E1 lb1 a1 (hs1.keep live) b k cs
        exact ⟨e2, a2, w2, hq2, .of_steps (Steps.trans harr (.one step_inLoop)) harr2⟩
      | exit id => exact ⟨_, a1, w1, hqe, .pass (x := .inLoop cx) rfl (fun _ _ => .inl (by simp)) harr⟩
      | goto l => exact ⟨_, a1, w1, hqe, .pass (x := .inLoop cx) rfl (fun _ _ => .inl (by simp)) harr⟩
      | ret => exact ⟨_, a1, w1, hqe, .pass (x := .inLoop cx) rfl (fun _ _ => .inl (by simp)) harr⟩
      | panic ch => exact ⟨_, a1, w1, hqe, .pass (x := .inLoop cx) rfl (fun _ _ => .inl (by simp)) harr⟩
      | outgrown => exact ⟨_, a1, w1, hqe, .pass (x := .inLoop cx) rfl (fun _ _ => .inl (by simp)) harr⟩
    intro b k cs
    obtain ⟨e, a', w', h1, h2⟩ := hI E lb a (h.keep live) b k cs
    exact ⟨e, a', w', h1, .of_steps (.one step_loop) h2⟩
  | .exit id, c, hc, Qa, Qc, hq, E, lb, st, a, h, hw => by
    cases c <;> first | (cases hc; done) | skip
    rename_i j
    simp only [okCode, beq_iff_eq] at hc
    subst hc
    exact wp_exit (hq.exit id E lb st a h hw)
  | .ret, c, hc, Qa, Qc, hq, E, lb, st, a, h, hw => by
    cases c <;> first | (cases hc; done) | skip
    exact wp_ret (hq.ret E lb st a h hw)
  | .dead, c, hc, Qa, Qc, hq, E, lb, st, a, h, hw => hw.elim

def resOk (TT : List (Nat × TI)) : List ARV → List ResultVar → Bool
  | [], [] => true
  | .tmp t :: l, .tmp u :: r => t == u && resOk TT l r
  | .cell x m ag :: l, .cell y t :: r => x == y && (match lk TT t with | some ti => ti.size == m && ti.ag == ag && (ag || m == 1) && m != 0 | none => false) && resOk TT l r
  | _, _ => false
def okFunc (TT : List (Nat × TI)) (anyOk : AnyOk) (af : AFunc) (fn : Func) : Bool :=
  (match fn.body with | some c => okCode TT anyOk fn.ntmps af.body c | none => false) && resOk TT af.res fn.results.toList && fn.name != "runtime.NumGoroutine"

theorem enum_get : ∀ {l : List AV} {k t : Nat}, fnd .undef (enum k l) t = if k ≤ t then (l[t - k]?).getD .undef else .undef
  | [], k, t => by simp [enum, fnd]
  | v :: l, k, t => by
    simp only [enum, fnd]
    by_cases h : k = t
    · subst h; simp [sel]
    · rw [show (k == t) = false by simp; exact h]
      simp only [sel]
      rw [enum_get]
      by_cases h2 : k + 1 ≤ t
      · rw [if_pos h2, if_pos (by omega), show t - k = (t - (k + 1)) + 1 by omega]; simp
      · rw [if_neg h2, if_neg (by omega)]

theorem loadAt_var {t : Nat} {x y : Value} {w : World} (h : (Instr.loadAt t x).run P w = .ok y w) : (do loadVar t (← asAddr x) : Sem Value).run P w = .ok y w := by
  cases x with
  | pointer p =>
    cases p with
    | none => simp [Instr.loadAt, Instr.sureAddr] at h
    | some p => simpa [Instr.loadAt, Instr.sureAddr, asAddr] using h
  | _ => simp [Instr.loadAt, Instr.sureAddr] at h

def resV (tmps : Array Value) : ResultVar → Sem Value
  | .tmp t => pure (tmps.getD t undef)
  | .cell a t => do loadVar t (← asAddr (tmps.getD a undef))
theorem results_run (hT : ttOk P TT = true) (h : SR E0 E lb n st a) : ∀ {rs : List ARV} {gs : List ResultVar} {vs : List AV}, resOk TT rs gs = true → evRes st rs = some vs → vs.all AV.mem = true →
    ∃ us : List Value, (gs.mapM (resV a.tmps)).run P E.w = .ok us E.w ∧ Sim.CsV E vs us
  | [], [], vs, _, hv, _ => by
    simp only [evRes, Option.some.injEq] at hv
    subst hv
    exact ⟨[], by simp, rfl, fun j y v h => by simp at h⟩
  | r :: rs, g :: gs, vs, ho, hv, hm => by
    simp only [evRes, Option.bind_eq_some_iff, Option.map_eq_some_iff] at hv
    obtain ⟨v, hr, vs', hvs, rfl⟩ := hv
    simp only [List.all_cons, Bool.and_eq_true] at hm
    have one : resOk TT rs gs = true ∧ ∃ u : Value, (resV a.tmps g).run P E.w = .ok u E.w ∧ RV E v u := by
      cases r with
      | tmp t =>
        cases g with
        | tmp u =>
          simp only [resOk, Bool.and_eq_true, beq_iff_eq] at ho
          obtain ⟨rfl, ho⟩ := ho
          simp only [ARV.ev, Option.some.injEq] at hr
          subst hr
          exact ⟨ho, _, rfl, (h.tr t).rv hm.1⟩
        | cell _ _ => simp [resOk] at ho
      | cell x m ag =>
        cases g with
        | tmp u => simp [resOk] at ho
        | cell y t =>
          simp only [resOk, Bool.and_eq_true] at ho
          obtain ⟨⟨h1, h2⟩, ho⟩ := ho
          have h1 : x = y := by simpa using h1
          subst h1
          simp only [ARV.ev] at hr
          cases hl : lk TT t with
          | none => rw [hl] at h2; cases h2
          | some ti =>
            rw [hl] at h2
            rw [← h.hp] at hr
            obtain ⟨u, hu, hru⟩ := load_run (t := t) h.wr h.lr (lk_ok hT hl) (by simpa [Bool.and_eq_true] using h2) (h.tr x) hr
            exact ⟨ho, u, loadAt_var hu, hru⟩
    obtain ⟨ho', u, hu, hru⟩ := one
    obtain ⟨us, hus, hcs⟩ := results_run hT h ho' hvs hm.2
    refine ⟨u :: us, ?_, by simp [hcs.1], fun j y w hj hw => ?_⟩
    · rw [List.mapM_cons, Sem.run_bind, hu, Result.andThen_ok, Sem.run_bind, hus]
      rfl
    · cases j with
      | zero => simp at hj hw; rw [← hj, ← hw]; exact hru
      | succ j => simp at hj hw; exact hcs.2 j y w hj hw
  | [], _ :: _, _, h, _, _ => by cases h
  | r :: _, [], _, h, _, _ => by cases r <;> simp [resOk] at h

theorem func_sound {anyOk : AnyOk} {f : FuncId} {af : AFunc} {fn : Func} {args : List AV} {hp : List AO} {Q : ARes → List AO → Prop} (hT : ttOk P TT = true) (hany : AnySound P TT anyOk) (hf : P.funcs[f]? = some fn) (hok : okFunc TT anyOk af fn = true)
    (hw : awp (Sim P) af.body (resQ af.res Q) ⟨enum 0 args, [], hp⟩) : Sim P f args hp Q := by
  simp only [okFunc, Bool.and_eq_true, bne_iff_ne] at hok
  obtain ⟨⟨h1, h2⟩, h3⟩ := hok
  cases hb : fn.body with
  | none => rw [hb] at h1; cases h1
  | some c =>
    rw [hb] at h1
    refine ⟨⟨fn, hf, by simpa using h3, by rw [hb]; rfl⟩, fun E vals hhp hwr hv => ?_⟩
    have fin : ∀ (E' : Env) lb st a, SR E E' lb fn.ntmps st a → retQ Q st.hp (evRes st af.res) → a.defers = [] ∧ ∃ v, (results fn a.tmps).run P E'.w = .ok v E'.w ∧ ∃ E'', E''.w = E'.w ∧ WR E'' ∧ Le E E'' ∧ Kept E E'' ∧ Ends E'' Q (.returned v) := by
      intro E' lb st a h hk
      refine ⟨h.dfs, ?_⟩
      cases hr : evRes st af.res with
      | none => rw [hr] at hk; exact hk.elim
      | some vs =>
        rw [hr] at hk
        obtain ⟨hm, hQ⟩ := hk
        obtain ⟨us, hus, hcs⟩ := results_run hT h h2 hr hm
        have hrun : (results fn a.tmps).run P E'.w = .ok (if h : us.toArray.size = 1 then us.toArray[0] else .tuple us.toArray) E'.w := by
          have e : results fn a.tmps = (fn.results.mapM (resV a.tmps) >>= fun vs => pure (if h : vs.size = 1 then vs[0] else .tuple vs)) := by
            unfold results
            congr 1
          rw [e, Array.mapM_eq_mapM_toList, Sem.run_bind, Sem.run_map, hus]
          rfl
        refine ⟨_, hrun, E', rfl, h.wr, h.le, h.kp, .inl ⟨resOf vs, _, rfl, ?_, by rw [h.hp]; exact hQ⟩⟩
        cases vs with
        | nil =>
          have : us = [] := List.eq_nil_of_length_eq_zero (by simpa using hcs.1)
          subst this
          exact RV.tup (vs := []) rfl hcs.2
        | cons v vs =>
          cases vs with
          | nil =>
            obtain ⟨u, rfl⟩ : ∃ u, us = [u] := by
              cases us with
              | nil => have := hcs.1; simp at this
              | cons u us =>
                cases us with
                | nil => exact ⟨u, rfl⟩
                | cons _ _ => have := hcs.1; simp at this
            exact hcs.2 0 v u rfl rfl
          | cons v2 vs =>
            have hne : ¬ us.toArray.size = 1 := by have := hcs.1; simp at this ⊢; omega
            rw [dif_neg hne]
            exact RV.tup hcs.1 hcs.2
    refine calls_of_wp hf hb ?_
    refine code_sound (E0 := E) hT hany af.body c h1 (Qa := resQ af.res Q) ⟨fun E' lb st a h hk => ?_, fun id E' lb st a h hk => hk.elim, fun E' lb st a h hk => ?_, fun E' a v x g1 g2 g3 g4 g5 g6 => ?_⟩ (E := E) (lb := id) (st := ⟨enum 0 args, [], hp⟩) ?_ hw
    · exact fin E' lb st a h hk
    · exact fin E' lb st a h hk
    · exact ⟨g5, E', rfl, g3, g1, g2, .inr ⟨v, x, rfl, g4, g6⟩⟩
    · refine ⟨hhp, Le.refl E, Kept.refl E, hwr, fun t => ?_, fun s hs => absurd rfl hs, fun s hs => absurd rfl hs, fun s s' hs => absurd rfl hs, ?_, rfl⟩
      · simp only [enum_get, Nat.zero_le, if_true, Nat.sub_zero]
        cases ht : args[t]? with
        | none => trivial
        | some v =>
          have hlt := lt_of_get ht
          have hlt2 : t < vals.length := by rw [hv.1]; exact hlt
          have hr := hv.2 t v _ ht (List.getElem?_eq_getElem hlt2)
          have e : (vals.toArray ++ Array.replicate (fn.ntmps - vals.toArray.size) undef).getD t undef = vals[t] := by
            rw [Array.getD_eq_getD_getElem?, Array.getElem?_append_left (by simpa using hlt2)]
            simp [hlt2]
          rw [e]
          exact RT.of_rv hr
      · simp only [Array.size_append, Array.size_replicate]; omega
end Go.Proofs.Ytnldohnfdeineaa.Abs
/- The abstract machine and the given one: operations that may come up in another order. -/
namespace Go.Proofs.Ytnldohnfdeineaa.Abs
open Go

def ARd : AR → List Nat
  | .t n => [n]
  | .c _ => []
def oRd : Option AR → List Nat
  | some x => ARd x
  | none => []
def notL : AV → Bool
  | .loc .. => false
  | _ => true
def cOk : AR → Bool
  | .t _ => true
  | .c v => notL v
/-- The slots that an operation looks at. -/
def rds : AOp → List Nat
  | .mv x | .box x | .boxH x | .fadd _ x | .un _ x | .conv _ x | .len _ x | .ext x _ | .nilck x | .mkArr _ x | .load _ _ x | .loadS _ _ _ x => ARd x
  | .pick c a b => ARd c ++ ARd a ++ ARd b
  | .alloc _ | .allocH _ | .bad => []
  | .build _ ps => ps.flatMap fun p => ARd p.2.2
  | .mkSl _ ps => ps.flatMap ARd
  | .store _ a x | .storeL _ _ a x | .ixa _ a x | .ixs a x | .bin _ a x | .beq _ _ a x | .app _ _ a x | .cp _ a x => ARd a ++ ARd x
  | .slstr x lo hi | .slsl _ x lo hi => ARd x ++ oRd lo ++ oRd hi
  | .call _ xs | .mkFn _ xs => xs.flatMap ARd
  | .callV f xs => ARd f ++ xs.flatMap ARd
def grd : Option (Nat × Bool) → List Nat
  | some (g, _) => [g]
  | none => []
def Agree (l : List Nat) (tm tm' : List (Nat × AV)) : Prop := ∀ t, t ∈ l → fnd AV.undef tm t = fnd .undef tm' t
theorem Agree.left {l r tm tm'} (h : Agree (l ++ r) tm tm') : Agree l tm tm' := fun t ht => h t (List.mem_append_left _ ht)
theorem Agree.right {l r tm tm'} (h : Agree (l ++ r) tm tm') : Agree r tm tm' := fun t ht => h t (List.mem_append_right _ ht)
theorem ev_congr {x : AR} {tm tm'} (h : Agree (ARd x) tm tm') : x.ev tm = x.ev tm' := by
  cases x with
  | t n => exact h n (by simp [ARd])
  | c v => rfl
theorem evs_congr {tm tm'} : ∀ {xs : List AR}, Agree (xs.flatMap ARd) tm tm' → xs.map (AR.ev tm ·) = xs.map (AR.ev tm' ·)
  | [], _ => rfl
  | x :: xs, h => by
    rw [List.flatMap_cons] at h
    simp only [List.map_cons]
    rw [ev_congr h.left, evs_congr h.right]
theorem bnd_congr {x : Option AR} {d tm tm'} (h : Agree (oRd x) tm tm') : bnd tm d x = bnd tm' d x := by
  cases x with
  | none => rfl
  | some x => simp only [bnd]; rw [ev_congr h]
theorem lay_congr {tm tm'} : ∀ {ps : List (Nat × Nat × AR)} {cs : List AV}, Agree (ps.flatMap fun p => ARd p.2.2) tm tm' → lay tm cs ps = lay tm' cs ps
  | [], _, _ => rfl
  | (o, n, x) :: ps, cs, h => by
    rw [List.flatMap_cons] at h
    simp only [lay]
    rw [ev_congr h.left]
    congr 1
    funext cs'
    exact lay_congr h.right

/-- Reads neither heap nor boxes but its own. -/
def memo (lo lo' : List (Nat × List AV)) (hp hp' : List AO) (tm : List (Nat × AV)) : AOp → Prop
  | .load n ag a => loadV lo hp n ag (a.ev tm) = loadV lo' hp' n ag (a.ev tm)
  | .loadS (some s) _ _ _ => fnd [] lo s = fnd [] lo' s
  | _ => True
theorem pv_congr {op : AOp} {tm tm' lo lo' hp hp'} (h : Agree (rds op) tm tm') (hm : memo lo lo' hp hp' tm op) : pv tm lo hp op = pv tm' lo' hp' op := by
  cases op
  case mv x => simp only [pv]; rw [ev_congr h]
  case pick c x y => simp only [pv]; rw [ev_congr h.left.left, ev_congr h.left.right, ev_congr h.right]
  case build z ps => simp only [pv]; rw [lay_congr h]
  case mkSl e ps =>
    cases ps with
    | nil => rfl
    | cons p ps => simp only [pv]; exact congrArg (mkSlV e) (evs_congr h)
  case load n ag x =>
    simp only [pv]
    rw [← ev_congr (x := x) h]
    exact hm
  case loadS s n ag x =>
    simp only [pv]
    rw [← ev_congr (x := x) h]
    cases s with
    | none => cases x.ev tm <;> rfl
    | some s =>
      simp only [memo] at hm
      cases x.ev tm with
      | loc s' o =>
        simp only [loadSV]
        cases hk : (s == s') with
        | true => have := beq_iff_eq.1 hk; subst this; rw [hm]
        | false => rfl
      | _ => rfl
  case fadd d x => simp only [pv]; rw [ev_congr h]
  case ixa e x i => simp only [pv]; rw [ev_congr h.left, ev_congr h.right]
  case ixs x i => simp only [pv]; rw [ev_congr h.left, ev_congr h.right]
  case bin op x y => simp only [pv]; rw [ev_congr h.left, ev_congr h.right]
  case beq pr ne x y => simp only [pv]; rw [ev_congr h.left, ev_congr h.right]
  case un op x => simp only [pv]; rw [ev_congr h]
  case conv k x => simp only [pv]; rw [ev_congr h]
  case len b x => simp only [pv]; rw [ev_congr h]
  case slstr x lo hi => simp only [pv]; rw [ev_congr h.left.left, bnd_congr h.left.right, bnd_congr h.right]
  case slsl e x lo hi => simp only [pv]; rw [ev_congr h.left.left, bnd_congr h.left.right, bnd_congr h.right]
  case ext x i => simp only [pv]; rw [ev_congr h]
  case mkFn f caps => simp only [pv]; exact congrArg (mkFnV f) (evs_congr h)
  case nilck x => simp only [pv]; rw [ev_congr h]
  all_goals rfl

/-- Constants are no addresses of boxes. -/
def csOk : AOp → Bool
  | .mv x | .fadd _ x | .nilck x | .load _ _ x | .loadS _ _ _ x | .store _ x _ | .storeL _ _ x _ => cOk x
  | .pick _ a b => cOk a && cOk b
  | _ => true
theorem ev_notLoc {x : AR} {tm d} (hc : cOk x = true) (hn : noLocs d tm = true) : notLoc d (x.ev tm) = true := by
  cases x with
  | t n => exact noLocs_fnd hn
  | c v => cases v <;> first | rfl | (simp [cOk, notL] at hc)
theorem notLoc_of_notL {d : Nat} {v : AV} (h : notL v = true) : notLoc d v = true := by cases v <;> first | rfl | (simp [notL] at h)
theorem nl_notL {v r : AV} (h : nl v = some r) : notL r = true := by cases v <;> simp [nl] at h <;> subst h <;> rfl
theorem ld_notL {n ag cs o r} (h : ld n ag cs o = some r) : notL r = true := by
  cases ag with
  | true => simp only [ld, Option.map_eq_some_iff] at h; obtain ⟨l, _, rfl⟩ := h; rfl
  | false => simp only [ld, Option.bind_eq_some_iff] at h; obtain ⟨l, _, h⟩ := h; exact nl_notL h
theorem slstrV_notLoc {v l h r} {d : Nat} (hh : slstrV v l h = some r) : notLoc d r = true := by
  unfold slstrV at hh
  split at hh
  · split at hh
    · simp only [Option.some.injEq] at hh; subst hh; rfl
    · cases hh
  · cases hh
theorem slslV_notLoc {e w v l h r} {d : Nat} (hh : slslV e w v l h = some r) : notLoc d r = true := by
  unfold slslV at hh
  split at hh
  · split at hh
    · simp only [Option.some.injEq] at hh; subst hh; rfl
    · cases hh
  · split at hh
    · simp only [Option.some.injEq] at hh; subst hh; rfl
    · cases hh
  · cases hh
theorem pv_notLoc {op : AOp} {tm lo hp r d} (hc : csOk op = true) (hn : noLocs d tm = true) (h : pv tm lo hp op = some r) : notLoc d r = true := by
  cases op
  case mv x => simp only [pv, Option.some.injEq] at h; subst h; exact ev_notLoc hc hn
  case pick c x y =>
    simp only [csOk, Bool.and_eq_true] at hc
    simp only [pv] at h
    cases hv : c.ev tm <;> rw [hv] at h <;> simp [pickV] at h
    rename_i b
    subst h
    cases b
    · exact ev_notLoc hc.2 hn
    · exact ev_notLoc hc.1 hn
  case fadd k x =>
    have hx := ev_notLoc (d := d) (x := x) hc hn
    simp only [pv] at h
    cases hv : x.ev tm <;> rw [hv] at h hx <;> simp [faddV] at h <;> subst h <;> exact hx
  case nilck x =>
    have hx := ev_notLoc (d := d) (x := x) hc hn
    simp only [pv] at h
    cases hv : x.ev tm <;> rw [hv] at h hx <;> simp [nilckV] at h <;> subst h <;> exact hx
  case build z ps => simp only [pv, Option.map_eq_some_iff] at h; obtain ⟨l, _, rfl⟩ := h; rfl
  case mkSl e ps =>
    cases ps with
    | nil => simp only [pv, Option.some.injEq] at h; subst h; rfl
    | cons p ps => simp only [pv, mkSlV] at h; split at h <;> simp at h; subst h; rfl
  case load n ag x =>
    simp only [pv] at h
    cases hv : x.ev tm <;> rw [hv] at h <;> simp only [loadV, reduceCtorEq] at h
    · simp only [Option.bind_eq_some_iff] at h; obtain ⟨cs, _, h⟩ := h; exact notLoc_of_notL (ld_notL h)
    · exact notLoc_of_notL (ld_notL h)
    · exact notLoc_of_notL (ld_notL h)
  case loadS s n ag x =>
    simp only [pv] at h
    have h := loadSV_some (hp := hp) h
    cases hv : x.ev tm <;> rw [hv] at h <;> simp only [loadV, reduceCtorEq] at h
    · simp only [Option.bind_eq_some_iff] at h; obtain ⟨cs, _, h⟩ := h; exact notLoc_of_notL (ld_notL h)
    · exact notLoc_of_notL (ld_notL h)
    · exact notLoc_of_notL (ld_notL h)
  case ixa e x i =>
    simp only [pv] at h
    cases hv : x.ev tm <;> rw [hv] at h <;> cases hi : i.ev tm <;> rw [hi] at h <;> simp only [ixaV, reduceCtorEq] at h <;> split at h <;> simp at h
    · obtain ⟨y, _, rfl⟩ := h; rfl
    · subst h; rfl
  case ixs x i =>
    simp only [pv] at h
    cases hv : x.ev tm <;> rw [hv] at h <;> cases hi : i.ev tm <;> rw [hi] at h <;> simp only [ixsV, reduceCtorEq] at h <;> split at h <;> simp at h
    obtain ⟨y, _, rfl⟩ := h; rfl
  case bin op x y =>
    simp only [pv] at h
    cases hv : x.ev tm <;> rw [hv] at h <;> cases hi : y.ev tm <;> rw [hi] at h <;> simp only [abin, reduceCtorEq] at h
    · have hs : ∀ {k : IntKind} {a b : Int}, shBin op k a b = some r → notLoc d r = true := fun {k a b} h => by
        cases op <;> simp only [shBin, reduceCtorEq, Option.ite_none_left_eq_some, Option.some.injEq] at h
        all_goals (rw [← h.2]; rfl)
      split at h
      · cases op <;> first | exact hs h | (simp [intBin] at h <;> first | (subst h; rfl) | (obtain ⟨_, rfl⟩ := h; rfl))
      · exact hs h
    · cases op <;> simp [strBin] at h <;> first | (subst h; rfl) | (obtain ⟨_, rfl⟩ := h; rfl)
  case beq pr ne x y =>
    simp only [pv] at h
    cases pr with
    | true => obtain ⟨b, rfl⟩ := beqP_res h; rfl
    | false =>
    simp only [beqW] at h
    cases hv : x.ev tm <;> rw [hv] at h <;> cases hi : y.ev tm <;> rw [hi] at h <;> simp [beqV] at h
    subst h; rfl
  case un op x =>
    simp only [pv] at h
    cases hv : x.ev tm <;> rw [hv] at h <;> cases op <;> simp [aun] at h <;> subst h <;> rfl
  case conv k x =>
    simp only [pv] at h
    cases hv : x.ev tm <;> rw [hv] at h <;> simp [convV] at h
    subst h; rfl
  case len b x =>
    simp only [pv] at h
    cases hv : x.ev tm <;> rw [hv] at h <;> cases b <;> simp [lenV] at h <;> subst h <;> rfl
  case slstr x lo hi =>
    simp only [pv] at h
    exact slstrV_notLoc h
  case slsl e x lo hi =>
    simp only [pv] at h
    exact slslV_notLoc h
  case ext x i =>
    simp only [pv] at h
    cases hv : x.ev tm <;> rw [hv] at h <;> simp only [extV, reduceCtorEq, Option.bind_eq_some_iff] at h
    obtain ⟨y, _, h⟩ := h
    exact notLoc_of_notL (nl_notL h)
  case mkFn f caps => simp only [pv, mkFnV] at h; split at h <;> simp at h; subst h; rfl
  all_goals simp [pv] at h

theorem noLocs_ins {d k : Nat} {v : AV} : ∀ {l : List (Nat × AV)}, noLocs d l = true → notLoc d v = true → noLocs d (ins k v l) = true
  | [], _, hv => by simp [ins, noLocs, hv]
  | (j, u) :: l, h, hv => by
    simp only [noLocs, Bool.and_eq_true] at h
    simp only [ins]
    cases decide (k < j) with
    | true => simp [sel, noLocs, hv, h.1, h.2]
    | false =>
      cases (k == j) with
      | true => simp [sel, noLocs, hv, h.2]
      | false => simp [sel, noLocs, h.1, noLocs_ins h.2 hv]
theorem noLocs_put {d : Nat} {tm} {k : Option Nat} {v : AV} (h : noLocs d tm = true) (hv : notLoc d v = true) : noLocs d (putT tm k v) = true := by
  cases k with
  | none => exact h
  | some k => exact noLocs_ins h hv

theorem ins_comm {α : Type} {a b : Nat} {x y : α} (h : a ≠ b) : ∀ {l : List (Nat × α)}, ins a x (ins b y l) = ins b y (ins a x l)
  | [] => by
    simp only [ins]
    by_cases h1 : a < b
    · have h2 : ¬ b < a := by omega
      simp [h1, h2, sel, show (b == a) = false by simp; omega]
    · have h2 : b < a := by omega
      simp [h1, h2, sel, show (a == b) = false by simp; omega]
  | (j, u) :: l => by
    have e1 : (a == b) = false := by simp; exact h
    have e2 : (b == a) = false := by simp; exact fun e => h e.symm
    by_cases ha : a < j <;> by_cases hb : b < j
    · by_cases h1 : a < b
      · have h2 : ¬ b < a := by omega
        simp [ins, sel, ha, hb, h1, h2, e1, e2]
      · have h2 : b < a := by omega
        simp [ins, sel, ha, hb, h1, h2, e1, e2]
    · have h3 : a < b := by omega
      have h4 : ¬ b < a := by omega
      by_cases hbj : b = j
      · subst hbj; simp [ins, sel, ha, hb, h3, h4, e1, e2]
      · simp [ins, sel, ha, hb, h4, e2, show (b == j) = false by simp; exact hbj]
    · have h3 : b < a := by omega
      have h4 : ¬ a < b := by omega
      by_cases haj : a = j
      · subst haj; simp [ins, sel, ha, hb, h3, h4, e1, e2]
      · simp [ins, sel, ha, hb, h4, e1, show (a == j) = false by simp; exact haj]
    · by_cases haj : a = j
      · subst haj
        simp [ins, sel, ha, hb, e1, e2]
      · by_cases hbj : b = j
        · subst hbj
          simp [ins, sel, ha, hb, e1, e2]
        · simp [ins, sel, ha, hb, show (a == j) = false by simp; exact haj, show (b == j) = false by simp; exact hbj, ins_comm h]
end Go.Proofs.Ytnldohnfdeineaa.Abs
