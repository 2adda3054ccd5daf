import PyProof.Rows.All
import Wide.All
import OpenK.AllK
import Wide.FinOn
import PySem.Challenge.RW_sa0167_01
set_option Elab.async false
set_option genSizeOf false
set_option genSizeOfSpec false

section
open PySem PySem.W PyProof.Rows
set_option Elab.async false
set_option maxRecDepth 100000

namespace Mine

/-! ## values, objects -/
inductive MV where
  | none
  | bool (b : Bool)
  | int (i : Int)
  | str (s : Str)
  | tup (xs : List MV)
  | flist (xs : List MV)
  | rng (a b c : Int)
  | own (k : Nat)
  deriving Inhabited

inductive Key where
  | ki (i : Int)
  | ks (s : Str)
  | kt (ks : List Int)
  deriving DecidableEq, Inhabited

inductive MO where
  | list (xs : List MV)
  | dict (es : List (Key × MV))
  | inst (c : Nat) (fs : List (Nat × MV))
  deriving Inhabited

structure S where
  loc : List (Option MV)
  obs : List MO

inductive Fl where
  | next
  | cont
  | brk
  | ret (v : MV)

inductive BOp where | add | sub | mul | fdiv | mod | pow
inductive COp where | eq | ne | lt | le | gt | ge | isin | notin | isnone
inductive Prim where | len | abs | lst | range

mutual
inductive ME where
  | loc (i : Nat)
  | lit (v : MV)
  | attr (e : ME) (a : Nat)
  | sub (e i : ME)
  | slice (e : ME) (n : Nat)
  | tup (es : MEs)
  | list (es : MEs)
  | flist (es : MEs)
  | dict0
  | bin (op : BOp) (a b : ME)
  | neg (a : ME)
  | not (a : ME)
  | cmp (op : COp) (a b : ME)
  | and (a b : ME)
  | ife (c : MT) (a b : ME)
  | callf (f : Nat) (args : MEs)
  | prim (p : Prim) (args : MEs)
  | callm (e : ME) (a : Nat) (args : MEs)
  | new (c : Nat) (args : MEs)
  | mapf (f : Nat) (src : ME) (i : Nat)
inductive MEs where
  | nil
  | cons (e : ME) (r : MEs)
/-- a test: of an if, a while, a conditional expression -/
inductive MT where
  | val (e : ME)
  | not (t : MT)
  | or (ts : MTs)
  | and (ts : MTs)
inductive MTs where
  | nil
  | cons (t : MT) (r : MTs)
end

mutual
inductive MS where
  | asg (i : Nat) (e : ME)
  | asgA (o : ME) (a : Nat) (e : ME)
  | asgS (o i e : ME)
  | asgT (i j : Nat) (e : ME)
  | augL (i : Nat) (e : ME)
  | augS (o i e : ME)
  | expr (e : ME)
  | ret (e : ME)
  | iff (c : MT) (t e : MSs)
  | while (c : MT) (b : MSs)
  | forr (i : Nat) (src : ME) (b : MSs)
  | cont
  | stuck
inductive MSs where
  | nil
  | cons (s : MS) (r : MSs)
end

/-- a call oracle: function (its address), arguments, objects, what is wanted behind -/
noncomputable abbrev Orc := Nat → List MV → List MO → (MV → List MO → Prop) → Prop

structure Tab where
  mth : Nat → Nat → Option Nat
  ini : Nat → Option Nat
  fld : Nat → Nat → Bool

noncomputable def need {α : Type} (o : Option α) (k : α → Prop) : Prop := match o with
  | some a => k a
  | none => False

noncomputable def brch (b : Bool) (p q : Prop) : Prop := match b with
  | true => p
  | false => q

/-! ## primitive operations -/
noncomputable def getF (a : Nat) : List (Nat × MV) → Option MV
  | [] => none
  | p :: r => match Nat.beq p.1 a with
    | true => some p.2
    | false => getF a r
noncomputable def putF (a : Nat) (v : MV) : List (Nat × MV) → List (Nat × MV)
  | [] => [(a, v)]
  | p :: r => match Nat.beq p.1 a with
    | true => (a, v) :: r
    | false => p :: putF a v r

noncomputable def getA (v : MV) (a : Nat) (O : List MO) (k : MV → Prop) : Prop := match v with
  | .own p => need O[p]? fun o => match o with
    | .inst _ fs => need (getF a fs) k
    | _ => False
  | _ => False

noncomputable def setA (T : Tab) (v : MV) (a : Nat) (x : MV) (O : List MO) (k : List MO → Prop) : Prop := match v with
  | .own p => need O[p]? fun o => match o with
    | .inst c fs => T.fld c a = true ∧ fs.length < 900 ∧ k (O.set p (.inst c (putF a x fs)))
    | _ => False
  | _ => False

noncomputable def itemAt (xs : List MV) (i : Int) (k : MV → Prop) : Prop := 0 ≤ i ∧ i < 1000000000 ∧ need xs[i.toNat]? k

noncomputable def ints? : List MV → Option (List Int)
  | [] => some []
  | .int i :: r => (ints? r).map (i :: ·)
  | _ => none
noncomputable def key? : MV → Option Key
  | .int i => some (.ki i)
  | .str x => some (.ks x)
  | .tup xs => (ints? xs).map .kt
  | _ => none
noncomputable def Key.kin : Key → Key → Bool
  | .ki _, .ki _ => true
  | .ks _, .ks _ => true
  | .kt _, .kt _ => true
  | _, _ => false
noncomputable def getK (k : Key) : List (Key × MV) → Option MV
  | [] => none
  | p :: r => match decide (p.1 = k) with
    | true => some p.2
    | false => getK k r
noncomputable def putK (k : Key) (v : MV) : List (Key × MV) → List (Key × MV)
  | [] => [(k, v)]
  | p :: r => match decide (p.1 = k) with
    | true => (p.1, v) :: r
    | false => p :: putK k v r
noncomputable def Key.mv : Key → MV
  | .ki i => .int i
  | .ks x => .str x
  | .kt l => .tup (l.map .int)

noncomputable def allKin (k : Key) (es : List (Key × MV)) : Prop := es.all (fun p => p.1.kin k) = true

noncomputable def getS (v ix : MV) (O : List MO) (k : MV → Prop) : Prop := match v with
  | .tup xs => match ix with
    | .int i => itemAt xs i k
    | _ => False
  | .flist xs => match ix with
    | .int i => itemAt xs i k
    | _ => False
  | .own p => need O[p]? fun o => match o with
    | .list xs => (match ix with
      | .int i => itemAt xs i k
      | _ => False)
    | .dict es => (match ix with
      | .int i => allKin (.ki i) es ∧ need (getK (.ki i) es) k
      | .str x => allKin (.ks x) es ∧ need (getK (.ks x) es) k
      | _ => False)
    | _ => False
  | _ => False

/-- a key that is a tuple is stored once only -/
noncomputable def newT (q : Key) (es : List (Key × MV)) : Prop := match q with
  | .kt _ => getK q es = none
  | _ => True

noncomputable def setS (v ix x : MV) (O : List MO) (k : List MO → Prop) : Prop := match v with
  | .own p => need O[p]? fun o => match o with
    | .list xs => (match ix with
      | .int i => 0 ≤ i ∧ i < 1000000000 ∧ i.toNat < xs.length ∧ k (O.set p (.list (xs.set i.toNat x)))
      | _ => False)
    | .dict es => need (key? ix) fun q => allKin q es ∧ es.length < 1000000 ∧ newT q es ∧ k (O.set p (.dict (putK q x es)))
    | _ => False
  | _ => False

noncomputable def opB (op : BOp) (a b : Int) (k : Int → Prop) : Prop := match op with
  | .add => k (a + b)
  | .sub => k (a - b)
  | .mul => a.natAbs < 2 ^ 30000 ∧ b.natAbs < 2 ^ 30000 ∧ k (a * b)
  | .fdiv => 0 < b ∧ b < 2 ^ 70 ∧ k (a.fdiv b)
  | .mod => 0 < b ∧ k (a.fmod b)
  | .pow => 0 ≤ b ∧ b ≤ 1000 ∧ a.natAbs < 2 ^ 64 ∧ k (a ^ b.toNat)

noncomputable def binV (op : BOp) (a b : MV) (k : MV → Prop) : Prop := match a with
  | .int x => match b with
    | .int y => opB op x y fun z => k (.int z)
    | _ => False
  | _ => False

noncomputable def eqV (a b : MV) (k : Bool → Prop) : Prop := match a with
  | .int x => match b with
    | .int y => k (x == y)
    | _ => False
  | .str x => match b with
    | .str y => k (decide (x = y))
    | _ => False
  | .tup xs => match b with
    | .tup ys => need (ints? xs) fun is => need (ints? ys) fun js => k (decide (is = js))
    | _ => False
  | _ => False

noncomputable def neV (a b : MV) (k : Bool → Prop) : Prop := match a with
  | .int x => match b with
    | .int y => k (x != y)
    | _ => False
  | .str x => match b with
    | .str y => k (!decide (x = y))
    | _ => False
  | _ => False

noncomputable def strs? : List MV → Option (List Str)
  | [] => some []
  | .str x :: r => (strs? r).map (x :: ·)
  | _ => none

noncomputable def inV (a b : MV) (O : List MO) (k : Bool → Prop) : Prop := match b with
  | .tup xs => (match a with
    | .str x => need (strs? xs) fun ys => k (ys.any (· == x))
    | _ => False)
  | .own p => need O[p]? fun o => match o with
    | .dict es => (match a with
      | .int i => allKin (.ki i) es ∧ k (getK (.ki i) es).isSome
      | .str x => allKin (.ks x) es ∧ k (getK (.ks x) es).isSome
      | _ => False)
    | _ => False
  | _ => False

noncomputable def cmpV (op : COp) (a b : MV) (O : List MO) (k : Bool → Prop) : Prop := match op with
  | .eq => eqV a b k
  | .ne => neV a b k
  | .isin => inV a b O k
  | .notin => inV a b O fun r => k (!r)
  | .isnone => (match a with
    | .none => (match b with | .none => k true | _ => False)
    | .int _ => (match b with | .none => k false | _ => False)
    | _ => False)
  | .lt => (match a with
    | .int x => (match b with | .int y => k (decide (x < y)) | _ => False)
    | _ => False)
  | .le => (match a with
    | .int x => (match b with | .int y => k (decide (x ≤ y)) | _ => False)
    | _ => False)
  | .gt => (match a with
    | .int x => (match b with | .int y => k (decide (x > y)) | _ => False)
    | _ => False)
  | .ge => (match a with
    | .int x => (match b with | .int y => k (decide (x ≥ y)) | _ => False)
    | _ => False)

noncomputable def truth (v : MV) (O : List MO) (k : Bool → Prop) : Prop := match v with
  | .bool b => k b
  | .int i => k (i != 0)
  | .none => k false
  | .own p => need O[p]? fun o => match o with
    | .list xs => k (!xs.isEmpty)
    | _ => False
  | _ => False

noncomputable def rangeItems (a b c : Int) : List MV := (List.range (Builtin.Range.rangeSize a b c).toNat).map fun (n : Nat) => MV.int (a + n * c)

noncomputable def primV (p : Prim) (vs : List MV) (O : List MO) (k : MV → Prop) : Prop := match p with
  | .len => (match vs with
    | [.tup xs] => xs.length < 1000000 ∧ k (.int xs.length)
    | [.flist xs] => xs.length < 1000000 ∧ k (.int xs.length)
    | [.own q] => need O[q]? fun o => match o with
      | .list xs => k (.int xs.length)
      | _ => False
    | _ => False)
  | .abs => (match vs with
    | [.int i] => k (.int (if i < 0 then -i else i))
    | _ => False)
  | .lst => (match vs with
    | [.own q] => need O[q]? fun o => match o with
      | .dict es => allKin (.ki 0) es ∧ es.length < 1000000 ∧ k (.flist (es.map fun p => p.1.mv))
      | _ => False
    | _ => False)
  | .range => (match vs with
    | [.int n] => k (.rng 0 n 1)
    | [.int a, .int b, .int c] => c ≠ 0 ∧ c.natAbs < 1000 ∧ k (.rng a b c)
    | _ => False)

inductive MM where
  | fn (f : Nat) (self : MV)
  | app (p : Nat)
  | pop (p : Nat)
  | get (p : Nat)
  | bits (i : Int)

/-- attribute numbers of the built-in methods -/
noncomputable abbrev aAppend : Nat := 0
noncomputable abbrev aPop : Nat := 1
noncomputable abbrev aGet : Nat := 2
noncomputable abbrev aBits : Nat := 3

noncomputable def meth (T : Tab) (v : MV) (a : Nat) (O : List MO) (k : MM → Prop) : Prop := match v with
  | .own p => need O[p]? fun o => match o with
    | .inst c fs => getF a fs = none ∧ need (T.mth c a) fun f => k (.fn f v)
    | .list _ => brch (Nat.beq a aAppend) (k (.app p)) (brch (Nat.beq a aPop) (k (.pop p)) False)
    | .dict _ => brch (Nat.beq a aGet) (k (.get p)) False
  | .int i => brch (Nat.beq a aBits) (k (.bits i)) False
  | _ => False

noncomputable def bitLen (i : Int) : Int := (Builtin.Int.intBits i : Nat)

noncomputable def doM (G : Orc) (m : MM) (vs : List MV) (O : List MO) (k : MV → List MO → Prop) : Prop := match m with
  | .fn f v => G f (v :: vs) O k
  | .app p => need O[p]? fun o => match o with
    | .list xs => (match vs with
      | [x] => xs.length < 1000000 ∧ k .none (O.set p (.list (xs ++ [x])))
      | _ => False)
    | _ => False
  | .pop p => need O[p]? fun o => match o with
    | .list xs => (match vs with
      | [] => need xs.getLast? fun x => k x (O.set p (.list xs.dropLast))
      | _ => False)
    | _ => False
  | .get p => need O[p]? fun o => match o with
    | .dict es => (match vs with
      | [a, d] => need (key? a) fun q => allKin q es ∧ k ((getK q es).getD d) O
      | _ => False)
    | _ => False
  | .bits i => (match vs with
    | [] => k (.int (bitLen i)) O
    | _ => False)

noncomputable def forG (i : Nat) (P : List MO → Prop) (B : S → (Fl → S → Prop) → Prop) : List MV → S → (Fl → S → Prop) → Prop
  | [], s, k => P s.obs ∧ k .next s
  | x :: r, s, k => P s.obs ∧ B ⟨s.loc.set i (some x), s.obs⟩ fun f s => match f with
    | .next => forG i P B r s k
    | .cont => forG i P B r s k
    | .brk => k .next s
    | .ret v => k (.ret v) s

noncomputable def whileN (T : S → (Bool → S → Prop) → Prop) (B : S → (Fl → S → Prop) → Prop) : Nat → S → (Fl → S → Prop) → Prop
  | 0, _, _ => False
  | n + 1, s, k => T s fun b s => brch b (B s fun f s => match f with
    | .next => whileN T B n s k
    | .cont => whileN T B n s k
    | .brk => k .next s
    | .ret v => k (.ret v) s) (k .next s)

mutual
/-- plain data: ints, texts, tuples and standing lists of such -/
noncomputable def pureV : MV → Bool
  | .int _ => true
  | .str _ => true
  | .tup xs => pureVs xs
  | .flist xs => pureVs xs
  | _ => false
noncomputable def pureVs : List MV → Bool
  | [] => true
  | x :: r => pureV x && pureVs r
end

/-! ## the semantics -/
mutual
noncomputable def evE (G : Orc) (T : Tab) : ME → S → (MV → S → Prop) → Prop
  | .loc i, s, k => need s.loc[i]? fun v => need v fun v => k v s
  | .lit v, s, k => k v s
  | .attr e a, s, k => evE G T e s fun v s => getA v a s.obs fun r => k r s
  | .sub e i, s, k => evE G T e s fun v s => evE G T i s fun x s => getS v x s.obs fun r => k r s
  | .slice e n, s, k => evE G T e s fun v s => match v with
    | .flist xs => xs.length < 1000000 ∧ k (.flist (xs.take n)) s
    | _ => False
  | .tup es, s, k => evEs G T es s fun vs s => vs.length < 1000 ∧ k (.tup vs) s
  | .list es, s, k => evEs G T es s fun vs s => vs.length < 1000 ∧ k (.own s.obs.length) ⟨s.loc, s.obs ++ [.list vs]⟩
  | .flist es, s, k => evEs G T es s fun vs s => vs.length < 1000 ∧ k (.flist vs) s
  | .dict0, s, k => k (.own s.obs.length) ⟨s.loc, s.obs ++ [.dict []]⟩
  | .bin op a b, s, k => evE G T a s fun x s => evE G T b s fun y s => binV op x y fun r => k r s
  | .neg a, s, k => evE G T a s fun x s => match x with
    | .int i => k (.int (-i)) s
    | _ => False
  | .not a, s, k => evE G T a s fun x s => truth x s.obs fun b => k (.bool (!b)) s
  | .cmp op a b, s, k => evE G T a s fun x s => evE G T b s fun y s => cmpV op x y s.obs fun r => k (.bool r) s
  | .and a b, s, k => evE G T a s fun x s => truth x s.obs fun t => brch t (evE G T b s k) (k x s)
  | .ife c a b, s, k => evT G T c s fun t s => brch t (evE G T a s k) (evE G T b s k)
  | .callf f es, s, k => evEs G T es s fun vs s => G f vs s.obs fun r O => k r ⟨s.loc, O⟩
  | .prim p es, s, k => evEs G T es s fun vs s => primV p vs s.obs fun r => k r s
  | .callm e a es, s, k => evE G T e s fun v s => meth T v a s.obs fun m => evEs G T es s fun vs s => doM G m vs s.obs fun r O => k r ⟨s.loc, O⟩
  | .new c es, s, k => evEs G T es s fun vs s => need (T.ini c) fun f => G f (.own s.obs.length :: vs) (s.obs ++ [.inst c []]) fun r O => match r with
    | .none => k (.own s.obs.length) ⟨s.loc, O⟩
    | _ => False
  | .mapf f e i, s, k => evE G T e s fun v s => match v with
    | .tup xs => xs.length < 1000 ∧ pureVs xs = true ∧ need s.loc[i]? fun y => need y fun y => pureV y = true ∧ ∃ φ : MV → Int, (∀ x ∈ xs, G f [x, y] [] fun v _ => v = .int (φ x)) ∧ k (.flist (xs.map fun x => .int (φ x))) s
    | _ => False
noncomputable def evEs (G : Orc) (T : Tab) : MEs → S → (List MV → S → Prop) → Prop
  | .nil, s, k => k [] s
  | .cons e r, s, k => evE G T e s fun v s => evEs G T r s fun vs s => k (v :: vs) s
noncomputable def evT (G : Orc) (T : Tab) : MT → S → (Bool → S → Prop) → Prop
  | .val e, s, k => evE G T e s fun x s => truth x s.obs fun t => k t s
  | .not a, s, k => evT G T a s fun b s => k (!b) s
  | .or ts, s, k => evO G T ts s k
  | .and ts, s, k => evA G T ts s k
noncomputable def evO (G : Orc) (T : Tab) : MTs → S → (Bool → S → Prop) → Prop
  | .nil, s, k => k false s
  | .cons t r, s, k => evT G T t s fun b s => brch b (k true s) (evO G T r s k)
noncomputable def evA (G : Orc) (T : Tab) : MTs → S → (Bool → S → Prop) → Prop
  | .nil, s, k => k true s
  | .cons t r, s, k => evT G T t s fun b s => brch b (evA G T r s k) (k false s)
end

mutual
noncomputable def evS (G : Orc) (T : Tab) : MS → S → (Fl → S → Prop) → Prop
  | .asg i e, s, k => evE G T e s fun v s => k .next ⟨s.loc.set i (some v), s.obs⟩
  | .asgA o a e, s, k => evE G T e s fun v s => evE G T o s fun x s => setA T x a v s.obs fun O => k .next ⟨s.loc, O⟩
  | .asgS o i e, s, k => evE G T e s fun v s => evE G T o s fun x s => evE G T i s fun y s => setS x y v s.obs fun O => k .next ⟨s.loc, O⟩
  | .asgT i j e, s, k => evE G T e s fun v s => match v with
    | .tup [x, y] => k .next ⟨(s.loc.set i (some x)).set j (some y), s.obs⟩
    | _ => False
  | .augL i e, s, k => need s.loc[i]? fun u => need u fun u => evE G T e s fun v s => binV .add u v fun r => k .next ⟨s.loc.set i (some r), s.obs⟩
  | .augS o i e, s, k => evE G T o s fun x s => evE G T i s fun y s => getS x y s.obs fun u => evE G T e s fun v s => binV .add u v fun r => setS x y r s.obs fun O => k .next ⟨s.loc, O⟩
  | .expr e, s, k => evE G T e s fun v s => match v with
    | .none => k .next s
    | .int _ => k .next s
    | _ => False
  | .ret e, s, k => evE G T e s fun v s => k (.ret v) s
  | .iff c t e, s, k => evT G T c s fun b s => brch b (evSs G T t s k) (evSs G T e s k)
  | .while c b, s, k => ∃ n, whileN (evT G T c) (evSs G T b) n s k
  | .forr i e b, s, k => evE G T e s fun v s => match v with
    | .tup xs => forG i (fun _ => True) (evSs G T b) xs s k
    | .flist xs => forG i (fun _ => True) (evSs G T b) xs s k
    | .rng a z c => Builtin.Range.small a z c = true ∧ forG i (fun _ => True) (evSs G T b) (rangeItems a z c) s k
    | .own p => need s.obs[p]? fun o => match o with
      | .list xs => forG i (fun O => O[p]? = some (.list xs)) (evSs G T b) xs s k
      | _ => False
    | _ => False
  | .cont, s, k => k .cont s
  | .stuck, _, _ => False
noncomputable def evSs (G : Orc) (T : Tab) : MSs → S → (Fl → S → Prop) → Prop
  | .nil, s, k => k .next s
  | .cons x r, s, k => evS G T x s fun f s => match f with
    | .next => evSs G T r s k
    | .cont => k .cont s
    | .brk => k .brk s
    | .ret v => k (.ret v) s
end

structure Fun where
  npar : Nat
  dflt : List MV
  nloc : Nat
  body : MSs

noncomputable def runF (G : Orc) (T : Tab) (f : Fun) (vs : List MV) (O : List MO) (k : MV → List MO → Prop) : Prop :=
  vs.length ≤ f.npar ∧ f.npar ≤ vs.length + f.dflt.length ∧
  evSs G T f.body ⟨(vs ++ f.dflt.drop (f.dflt.length - (f.npar - vs.length))).map some ++ List.replicate (f.nloc - f.npar) none, O⟩ fun r s => match r with
    | .ret v => k v s.obs
    | .next => k .none s.obs
    | _ => False

/-- the program: its functions by their addresses; n: how deep calls may go -/
noncomputable def gam (P : Nat → Option Fun) (T : Tab) : Nat → Orc
  | 0 => fun _ _ _ _ => False
  | n + 1 => fun f vs O k => need (P f) fun d => runF (gam P T n) T d vs O k

end Mine
end

section
open PySem PySem.W PyProof.Rows PySem.Calls
set_option Elab.async false
set_option maxRecDepth 100000

namespace Mine

noncomputable def Sub (g h : Heap) : Prop := ∀ b o, g.get? b = some o → h.get? b = some o
theorem Sub.refl (g : Heap) : Sub g g := fun _ _ e => e
theorem Sub.trans {a b c : Heap} (x : Sub a b) (y : Sub b c) : Sub a c := fun _ _ e => y _ _ (x _ _ e)

noncomputable abbrev Locs := List (Addr × Addr)

mutual
inductive Is (g : Heap) (ρ : Locs) : MV → Value → Prop
  | none : Is g ρ .none .none
  | bool (b : Bool) : Is g ρ (.bool b) (.bool b)
  | int (i : Int) (t : Tok) : Is g ρ (.int i) (.int i t)
  | str (x : Str) (t : Tok) : Is g ρ (.str x) (.str x t)
  | tup {a : Addr} {xs : List MV} {vs : List Value} : g.IsTuple a vs.toArray → IsAll g ρ xs vs → Is g ρ (.tup xs) (.ref a)
  | flist {a : Addr} {xs : List MV} {vs : List Value} : g.IsList a vs.toArray → IsAll g ρ xs vs → Is g ρ (.flist xs) (.ref a)
  | rng {a : Addr} {i j k : Int} {t u v : Tok} : IsRange g a i j k t u v → Is g ρ (.rng i j k) (.ref a)
  | own {k : Nat} {a c : Addr} : ρ[k]? = some (a, c) → Is g ρ (.own k) (.ref a)
inductive IsAll (g : Heap) (ρ : Locs) : List MV → List Value → Prop
  | nil : IsAll g ρ [] []
  | cons {x : MV} {v : Value} {xs : List MV} {vs : List Value} : Is g ρ x v → IsAll g ρ xs vs → IsAll g ρ (x :: xs) (v :: vs)
end

theorem IsAll.length {g : Heap} {ρ : Locs} {xs : List MV} {vs : List Value} (h : IsAll g ρ xs vs) : xs.length = vs.length := by
  induction xs generalizing vs with
  | nil => cases h; rfl
  | cons x xs ih => cases h with
    | cons _ r => exact congrArg Nat.succ (ih r)

theorem IsAll.get {g : Heap} {ρ : Locs} {xs : List MV} {vs : List Value} {i : Nat} {x : MV} (h : IsAll g ρ xs vs) (e : xs[i]? = some x) : ∃ v, vs[i]? = some v ∧ Is g ρ x v := by
  induction xs generalizing vs i with
  | nil => cases e
  | cons y xs ih => cases h with
    | cons h r => cases i with
      | zero => cases Option.some.inj e; exact ⟨_, rfl, h⟩
      | succ i => exact ih (i := i) r e

theorem IsAll.append {g : Heap} {ρ : Locs} {xs ys : List MV} {vs us : List Value} (h : IsAll g ρ xs vs) (h2 : IsAll g ρ ys us) : IsAll g ρ (xs ++ ys) (vs ++ us) := by
  induction xs generalizing vs with
  | nil => cases h; exact h2
  | cons x xs ih => cases h with
    | cons a r => exact .cons a (ih r)

theorem IsAll.set {g : Heap} {ρ : Locs} {xs : List MV} {vs : List Value} {i : Nat} {x : MV} {v : Value} (h : IsAll g ρ xs vs) (hx : Is g ρ x v) : IsAll g ρ (xs.set i x) (vs.set i v) := by
  induction xs generalizing vs i with
  | nil => cases h; exact .nil
  | cons y xs ih => cases h with
    | cons a r => cases i with
      | zero => exact .cons hx r
      | succ i => exact .cons a (ih r)

theorem IsAll.take {g : Heap} {ρ : Locs} {xs : List MV} {vs : List Value} (n : Nat) (h : IsAll g ρ xs vs) : IsAll g ρ (xs.take n) (vs.take n) := by
  induction xs generalizing vs n with
  | nil => cases h; cases n <;> exact .nil
  | cons y xs ih => cases h with
    | cons a r => cases n with
      | zero => exact .nil
      | succ n => exact .cons a (ih n r)

theorem IsAll.dropLast {g : Heap} {ρ : Locs} {xs : List MV} {vs : List Value} (h : IsAll g ρ xs vs) : IsAll g ρ xs.dropLast vs.dropLast := by
  rw [List.dropLast_eq_take, List.dropLast_eq_take, h.length]
  exact h.take _

theorem prefix_get {ρ ρ' : Locs} (p : ρ <+: ρ') {k : Nat} {x : Addr × Addr} (e : ρ[k]? = some x) : ρ'[k]? = some x := by
  obtain ⟨t, rfl⟩ := p
  rw [List.getElem?_append_left (List.getElem?_eq_some_iff.mp e).1]; exact e

mutual
theorem Is.mono {g g' : Heap} {ρ ρ' : Locs} (s : Sub g g') (p : ρ <+: ρ') : ∀ {x : MV} {v : Value}, Is g ρ x v → Is g' ρ' x v
  | _, _, .none => .none
  | _, _, .bool b => .bool b
  | _, _, .int i t => .int i t
  | _, _, .str x t => .str x t
  | _, _, .tup h r => .tup (by obtain ⟨o, ho, q⟩ := h; exact ⟨o, s _ _ ho, q⟩) (r.mono s p)
  | _, _, .flist h r => .flist (by obtain ⟨o, ho, q⟩ := h; exact ⟨o, s _ _ ho, q⟩) (r.mono s p)
  | _, _, .rng h => .rng (s _ _ h)
  | _, _, .own h => .own (prefix_get p h)
theorem IsAll.mono {g g' : Heap} {ρ ρ' : Locs} (s : Sub g g') (p : ρ <+: ρ') : ∀ {x : List MV} {v : List Value}, IsAll g ρ x v → IsAll g' ρ' x v
  | _, _, .nil => .nil
  | _, _, .cons h r => .cons (h.mono s p) (r.mono s p)
end

/-- what is laid aside for a time: a frame's names, an iterator -/
noncomputable def Aside (o : Obj) : Prop := (∃ es n, o.data = .dict es n) ∨ o.cls = .type "tuple_iterator" ∨ o.cls = .type "list_iterator" ∨ o.cls = .type "range_iterator"

noncomputable def SubBut (b : Addr) (g g' : Heap) : Prop := ∀ a o, a ≠ b → g.get? a = some o → g'.get? a = some o

theorem aside_tuple {o : Obj} (A : Aside o) {items : Array Value} {n : Nat} (hc : o.cls = .type "tuple") (hd : o.data = .seq items n) : False := by
  rcases A with ⟨es, m, e⟩ | e | e | e
  · rw [hd] at e; cases e
  all_goals (rw [hc] at e; injection e with e; revert e; decide)
theorem aside_list {o : Obj} (A : Aside o) {items : Array Value} {n : Nat} (hc : o.cls = .type "list") (hd : o.data = .seq items n) : False := by
  rcases A with ⟨es, m, e⟩ | e | e | e
  · rw [hd] at e; cases e
  all_goals (rw [hc] at e; injection e with e; revert e; decide)

mutual
theorem Is.but {g g' : Heap} {ρ : Locs} {b : Addr} (s : SubBut b g g') (A : ∀ o, g.get? b = some o → Aside o) : ∀ {x : MV} {v : Value}, Is g ρ x v → Is g' ρ x v
  | _, _, .none => .none
  | _, _, .bool b => .bool b
  | _, _, .int i t => .int i t
  | _, _, .str x t => .str x t
  | _, _, .tup (a := a) h r => .tup (by
      obtain ⟨o, ho, hc, n, hd⟩ := h
      exact ⟨o, s _ _ (fun e => aside_tuple (A o (e ▸ ho)) hc hd) ho, hc, n, hd⟩) (r.but s A)
  | _, _, .flist h r => .flist (by
      obtain ⟨o, ho, hc, n, hd⟩ := h
      exact ⟨o, s _ _ (fun e => aside_list (A o (e ▸ ho)) hc hd) ho, hc, n, hd⟩) (r.but s A)
  | _, _, .rng h => .rng (by
      refine s _ _ (fun e => ?_) h
      rcases A _ (e ▸ h) with ⟨es, m, e⟩ | e | e | e
      · cases e
      all_goals (injection e with e; revert e; decide))
  | _, _, .own h => .own h
theorem IsAll.but {g g' : Heap} {ρ : Locs} {b : Addr} (s : SubBut b g g') (A : ∀ o, g.get? b = some o → Aside o) : ∀ {x : List MV} {v : List Value}, IsAll g ρ x v → IsAll g' ρ x v
  | _, _, .nil => .nil
  | _, _, .cons h r => .cons (h.but s A) (r.but s A)
end

section
variable (prog : Program) (w : World) (attrs : List Str) (fld : Nat → Nat → Bool)

noncomputable def hashK : Key → Int
  | .ki i => hashInt i
  | .ks x => hashStr w x
  | .kt l => tupleKeyHash (intKind prog w) l

inductive Ents (g : Heap) (ρ : Locs) : List (Key × MV) → List DictEntry → Prop
  | nil : Ents g ρ [] []
  | cons {k : Key} {v : MV} {e : DictEntry} {r : List (Key × MV)} {rs : List DictEntry} : Is g ρ k.mv e.key → Is g ρ v e.val → e.hash = hashK prog w k → Ents g ρ r rs → Ents g ρ ((k, v) :: r) (e :: rs)

inductive Flds (g : Heap) (ρ : Locs) : List (Nat × MV) → List DictEntry → Prop
  | nil : Flds g ρ [] []
  | cons {a : Nat} {v : MV} {e : DictEntry} {x : Str} {t : Tok} {r : List (Nat × MV)} {rs : List DictEntry} : attrs[a]? = some x → e.key = .str x t → Is g ρ v e.val → Flds g ρ r rs → Flds g ρ ((a, v) :: r) (e :: rs)

noncomputable def ObjIs (g : Heap) (ρ : Locs) (o : MO) (p : Addr × Addr) (h : Heap) : Prop := match o with
  | .list xs => p.1 = p.2 ∧ xs.length ≤ 1000000 ∧ ∃ vs, h.PlainList p.2 vs.toArray ∧ IsAll g ρ xs vs
  | .dict es => p.1 = p.2 ∧ (es.map (·.1)).Nodup ∧ ∃ ob ds n, h.get? p.2 = some ob ∧ ob.ExactDict ∧ ob.data = .dict ds n ∧ Ents prog w g ρ es ds.toList
  | .inst c fs => g.get? p.1 = some (instObj c p.2) ∧ (∀ q ∈ fs, fld c q.1 = true) ∧ ∃ ds n, h.get? p.2 = some (dictOf ds n) ∧ Flds attrs g ρ fs ds

variable {prog w attrs fld}
theorem Ents.mono {g g' : Heap} {ρ ρ' : Locs} (s : Sub g g') (p : ρ <+: ρ') {x : List (Key × MV)} {v : List DictEntry} (h : Ents prog w g ρ x v) : Ents prog w g' ρ' x v := by
  induction h with
  | nil => exact .nil
  | cons a b c _ ih => exact .cons (a.mono s p) (b.mono s p) c ih
theorem Flds.mono {g g' : Heap} {ρ ρ' : Locs} (s : Sub g g') (p : ρ <+: ρ') {x : List (Nat × MV)} {v : List DictEntry} (h : Flds attrs g ρ x v) : Flds attrs g' ρ' x v := by
  induction h with
  | nil => exact .nil
  | cons a b c _ ih => exact .cons a b (c.mono s p) ih
theorem Ents.but {g g' : Heap} {ρ : Locs} {b : Addr} (s : SubBut b g g') (A : ∀ o, g.get? b = some o → Aside o) {x : List (Key × MV)} {v : List DictEntry} (h : Ents prog w g ρ x v) : Ents prog w g' ρ x v := by
  induction h with
  | nil => exact .nil
  | cons a b c _ ih => exact .cons (a.but s A) (b.but s A) c ih
theorem Flds.but {g g' : Heap} {ρ : Locs} {b : Addr} (s : SubBut b g g') (A : ∀ o, g.get? b = some o → Aside o) {x : List (Nat × MV)} {v : List DictEntry} (h : Flds attrs g ρ x v) : Flds attrs g' ρ x v := by
  induction h with
  | nil => exact .nil
  | cons a b c _ ih => exact .cons a b (c.but s A) ih

theorem ObjIs.mono {g g' : Heap} {ρ ρ' : Locs} {o : MO} {p : Addr × Addr} {h h' : Heap} (s : Sub g g') (q : ρ <+: ρ') (hh : ∀ o, h.get? p.2 = some o → h'.get? p.2 = some o) (x : ObjIs prog w attrs fld g ρ o p h) : ObjIs prog w attrs fld g' ρ' o p h' := by
  cases o with
  | list xs => obtain ⟨e, z, vs, ⟨o, ho⟩, a⟩ := x; exact ⟨e, z, vs, ⟨o, hh _ ho⟩, a.mono s q⟩
  | dict es => obtain ⟨e, nd, ob, ds, n, ho, a, b, c⟩ := x; exact ⟨e, nd, ob, ds, n, hh _ ho, a, b, c.mono s q⟩
  | inst c fs => obtain ⟨e, ok, ds, n, ho, a⟩ := x; exact ⟨s _ _ e, ok, ds, n, hh _ ho, a.mono s q⟩
theorem ObjIs.but {g g' : Heap} {ρ : Locs} {b : Addr} {o : MO} {p : Addr × Addr} {h : Heap} (s : SubBut b g g') (A : ∀ o, g.get? b = some o → Aside o) (x : ObjIs prog w attrs fld g ρ o p h) : ObjIs prog w attrs fld g' ρ o p h := by
  cases o with
  | list xs => obtain ⟨e, z, vs, l, a⟩ := x; exact ⟨e, z, vs, l, a.but s A⟩
  | dict es => obtain ⟨e, nd, ob, ds, n, ho, a, b, c⟩ := x; exact ⟨e, nd, ob, ds, n, ho, a, b, c.but s A⟩
  | inst c fs =>
    obtain ⟨e, ok, ds, n, ho, a⟩ := x
    refine ⟨s _ _ (fun z => ?_) e, ok, ds, n, ho, a.but s A⟩
    rcases A _ (z ▸ e) with ⟨es, m, e⟩ | e | e | e <;> cases e
end

end Mine
end

section
open PySem PySem.W PyProof.Rows PySem.Calls
set_option Elab.async false
set_option maxRecDepth 100000
set_option linter.unusedVariables false
set_option linter.unusedSectionVars false

namespace Mine

structure Cfg where
  prog : Program
  w : World
  K : Frag
  attrs : List Str
  T : Tab
  g₀ : Heap
  mg : Str → Option Value
  mb : Str → Option Value

/-- an attribute that is kept in an object of its own -/
noncomputable def attrOk (K : Frag) (C : Addr) (x : Str) : Bool :=
  plainGet K C x && hasDictIn K C && (findIn K (.ref C) x).any (noGet K) && (findIn K (.ref C) "__setattr__" == some (some (.builtin "object.__setattr__"))) && plainOver K C && (takerIn K C x == some none)
/-- a method that is a def -/
noncomputable def mthOk (K : Frag) (C : Addr) (x : Str) (f : Addr) : Bool :=
  plainGet K C x && (findIn K (.ref C) x == some (some (.ref f))) && isFn K (.ref f) && keepIn K (.ref f)
noncomputable def iniOk (K : Frag) (C : Addr) (f : Addr) : Bool :=
  makesIn K C && (findIn K (.ref C) "__init__" == some (some (.ref f))) && isFn K (.ref f) && keepIn K (.ref C)

structure Cfg.Ok (c : Cfg) : Prop where
  kin : c.K.In c.g₀
  g : c.g₀.Ns mainGlobals c.mg
  b : c.g₀.Ns builtinsNs c.mb
  nolimit : c.g₀.NoLimit
  builtins : ∀ x : Str, x ≠ "__name__" → c.mb x = bootBuiltins x
  anodup : c.attrs.Nodup
  sys : sysModules < c.g₀.objs.size
  fld : ∀ C a x, c.T.fld C a = true → c.attrs[a]? = some x → attrOk c.K C x = true
  mth : ∀ C a x f, c.T.mth C a = some f → c.attrs[a]? = some x → mthOk c.K C x f = true
  ini : ∀ C f, c.T.ini C = some f → iniOk c.K C f = true

structure Mem (c : Cfg) (g h : Heap) (ρ : Locs) (O : List MO) : Prop where
  base : Sub c.g₀ g
  keep : Sub g h
  len : O.length = ρ.length
  cell : ∀ p ∈ ρ, g.get? p.2 = none
  fresh : ∀ p ∈ ρ, c.g₀.objs.size ≤ p.2
  nd : (ρ.map (·.2)).Nodup
  objs : ∀ (k : Nat) (o : MO) (p : Addr × Addr), O[k]? = some o → ρ[k]? = some p → ObjIs c.prog c.w c.attrs c.T.fld g ρ o p h

theorem Mem.at {c : Cfg} {g h : Heap} {ρ : Locs} {O : List MO} (M : Mem c g h ρ O) {k : Nat} {o : MO} (e : O[k]? = some o) : ∃ p, ρ[k]? = some p ∧ ObjIs c.prog c.w c.attrs c.T.fld g ρ o p h := by
  have hk : k < ρ.length := M.len ▸ (List.getElem?_eq_some_iff.mp e).1
  exact ⟨ρ[k], List.getElem?_eq_getElem hk, M.objs k o _ e (List.getElem?_eq_getElem hk)⟩

theorem ObjIs.there {prog : Program} {w : World} {attrs : List Str} {fld : Nat → Nat → Bool} {g h : Heap} {ρ : Locs} {o : MO} {p : Addr × Addr} (x : ObjIs prog w attrs fld g ρ o p h) : ∃ ob, h.get? p.2 = some ob := by
  cases o with
  | list xs => obtain ⟨_, _, vs, ⟨o, ho⟩, _⟩ := x; exact ⟨_, ho⟩
  | dict es => obtain ⟨_, _, ob, _, _, ho, _⟩ := x; exact ⟨ob, ho⟩
  | inst c fs => obtain ⟨_, _, ds, n, ho, _⟩ := x; exact ⟨_, ho⟩

theorem Mem.there {c : Cfg} {g h : Heap} {ρ : Locs} {O : List MO} (M : Mem c g h ρ O) {p : Addr × Addr} (hp : p ∈ ρ) : ∃ ob, h.get? p.2 = some ob := by
  obtain ⟨k, hk⟩ := List.mem_iff_getElem?.mp hp
  have hl : k < O.length := M.len ▸ (List.getElem?_eq_some_iff.mp hk).1
  exact (M.objs k _ p (List.getElem?_eq_getElem hl) hk).there

/-- the heap grows (or changes what is neither laid down nor a cell) -/
theorem Mem.grow {c : Cfg} {g h h' : Heap} {ρ : Locs} {O : List MO} (M : Mem c g h ρ O) (s : Sub g h') (hc : ∀ p ∈ ρ, ∀ o, h.get? p.2 = some o → h'.get? p.2 = some o) (hid : List Addr) (hh : ∀ b ∈ hid, g.get? b = none) :
    ∃ g', Sub g g' ∧ Mem c g' h' ρ O ∧ (∀ b o, h'.get? b = some o → b ∉ ρ.map (·.2) → b ∉ hid → g'.get? b = some o) ∧ ∀ b ∈ hid, g'.get? b = none := by
  have sub : Sub g (hideAll h' (ρ.map (·.2) ++ hid)) := fun b o e => hideAll_get _ (s _ _ e) fun hm => by
    rcases List.mem_append.mp hm with hm | hm
    · obtain ⟨p, hp, rfl⟩ := List.mem_map.mp hm
      rw [M.cell p hp] at e; cases e
    · rw [hh b hm] at e; cases e
  refine ⟨hideAll h' (ρ.map (·.2) ++ hid), sub, ⟨M.base.trans sub, fun b o e => of_hideAll _ e, M.len, fun p hp => hideAll_none _ (List.mem_append_left _ (List.mem_map_of_mem hp)), M.fresh, M.nd, fun k o p e1 e2 => ?_⟩, fun b o e h1 h2 => hideAll_get _ e fun hm => ?_, fun b hb => hideAll_none _ (List.mem_append_right _ hb)⟩
  · exact (M.objs k o p e1 e2).mono sub (List.prefix_refl _) (hc p (List.mem_of_getElem? e2))
  · rcases List.mem_append.mp hm with hm | hm
    · exact h1 hm
    · exact h2 hm

theorem nodup_get {l : List Addr} (nd : l.Nodup) {i j : Nat} {a : Addr} (e1 : l[i]? = some a) (e2 : l[j]? = some a) : i = j :=
  (List.getElem?_inj (List.getElem?_eq_some_iff.mp e1).1 nd).mp (e1.trans e2.symm)

/-- one object changes -/
theorem Mem.put {c : Cfg} {g h h' : Heap} {ρ : Locs} {O : List MO} (M : Mem c g h ρ O) {k : Nat} {p : Addr × Addr} {o' : MO} (e : ρ[k]? = some p) (hs : Heap.SameBut p.2 h h') (ho : ObjIs c.prog c.w c.attrs c.T.fld g ρ o' p h') : Mem c g h' ρ (O.set k o') := by
  refine ⟨M.base, fun b o eb => (hs.2 b fun z => ?_).trans (M.keep b o eb), by rw [List.length_set]; exact M.len, M.cell, M.fresh, M.nd, fun j o q e1 e2 => ?_⟩
  · subst z; rw [M.cell p (List.mem_of_getElem? e)] at eb; cases eb
  · by_cases hj : k = j
    · subst hj
      rw [e] at e2; cases e2
      have hk : k < O.length := M.len ▸ (List.getElem?_eq_some_iff.mp e).1
      rw [List.getElem?_set_self hk] at e1; cases e1
      exact ho
    · rw [List.getElem?_set_ne hj] at e1
      refine (M.objs j o q e1 e2).mono (Sub.refl _) (List.prefix_refl _) fun ob hob => (hs.2 _ fun z => hj ?_).trans hob
      refine nodup_get M.nd (a := p.2) ?_ ?_
      · rw [List.getElem?_map, e]; rfl
      · rw [List.getElem?_map, e2, ← z]; rfl

/-- a new object of one's own -/
theorem Mem.new {c : Cfg} {g h : Heap} {ρ : Locs} {O : List MO} (M : Mem c g h ρ O) {p : Addr × Addr} {o : MO} (hc : g.get? p.2 = none) (hf : c.g₀.objs.size ≤ p.2) (hn : p.2 ∉ ρ.map (·.2)) (ho : ObjIs c.prog c.w c.attrs c.T.fld g (ρ ++ [p]) o p h) : Mem c g h (ρ ++ [p]) (O ++ [o]) := by
  refine ⟨M.base, M.keep, by simp [M.len], fun q hq => ?_, fun q hq => ?_, ?_, fun k o' q e1 e2 => ?_⟩
  · rcases List.mem_append.mp hq with hq | hq
    · exact M.cell q hq
    · rw [List.mem_singleton.mp hq]; exact hc
  · rcases List.mem_append.mp hq with hq | hq
    · exact M.fresh q hq
    · rw [List.mem_singleton.mp hq]; exact hf
  · rw [List.map_append, List.nodup_append]
    refine ⟨M.nd, by simp, ?_⟩
    intro x hx y hy
    simp only [List.map_cons, List.map_nil, List.mem_singleton] at hy
    subst hy
    exact fun e => hn (e ▸ hx)
  · by_cases hk : k < ρ.length
    · rw [List.getElem?_append_left (M.len ▸ hk)] at e1
      rw [List.getElem?_append_left hk] at e2
      exact (M.objs k o' q e1 e2).mono (Sub.refl _) (List.prefix_append _ _) fun _ e => e
    · have hk' : k = ρ.length := by
        have := (List.getElem?_eq_some_iff.mp e2).1
        simp at this; omega
      subst hk'
      rw [List.getElem?_append_right (Nat.le_refl _)] at e2
      rw [List.getElem?_append_right (by rw [M.len]; exact Nat.le_refl _)] at e1
      simp [M.len] at e1 e2
      subst e1 e2
      exact ho

noncomputable def Slot (env : Env) (g : Heap) (ρ : Locs) (m : Str → Option Value) (x : Str) (v : MV) : Prop :=
  ∃ u, Is g ρ v u ∧ ((env.kindOf x = some .local ∧ m x = some u) ∨ (env.kindOf x = some .cell ∧ ∃ a ob, env.cells.lookup x = some a ∧ g.get? a = some ob ∧ ob.data = .cell (some u)))

theorem Slot.mono {env : Env} {g g' : Heap} {ρ ρ' : Locs} {m : Str → Option Value} {x : Str} {v : MV} (s : Sub g g') (p : ρ <+: ρ') (y : Slot env g ρ m x v) : Slot env g' ρ' m x v := by
  obtain ⟨u, hu, hk⟩ := y
  exact ⟨u, hu.mono s p, hk.imp id fun ⟨k, a, ob, e1, e2, e3⟩ => ⟨k, a, ob, e1, s _ _ e2, e3⟩⟩

structure Frm (c : Cfg) (env : Env) (names : List Str) : Prop where
  kind : env.scope.kind = .function
  glob : env.globals = mainGlobals
  blt : env.builtins = builtinsNs
  nd : names.Nodup
  kinds : ∀ x ∈ names, env.kindOf x = some .local ∨ env.kindOf x = some .cell
  above : c.g₀.objs.size ≤ env.locals

structure St (c : Cfg) (env : Env) (names : List Str) (g h : Heap) (ρ : Locs) (m : Str → Option Value) (σ : S) : Prop where
  mem : Mem c g h ρ σ.obs
  ns : h.Ns env.locals m
  gL : g.get? env.locals = none
  neL : ∀ p ∈ ρ, p.2 ≠ env.locals
  locs : ∀ (i : Nat) (x : Str) (v : MV), names[i]? = some x → σ.loc[i]? = some (some v) → Slot env g ρ m x v
  size : σ.loc.length = names.length

section
variable {c : Cfg} {env : Env} {names : List Str} {g h h' : Heap} {ρ : Locs} {m : Str → Option Value} {σ : S}

/-- objects are laid down; the frame and the cells stand -/
theorem St.grow (X : St c env names g h ρ m σ) (hh : Sub h h') : ∃ g', Sub g g' ∧ St c env names g' h' ρ m σ ∧ ∀ b o, h'.get? b = some o → (h.get? b = none) → g'.get? b = some o := by
  obtain ⟨g', s, M, ins, out⟩ := X.mem.grow (X.mem.keep.trans hh) (fun p _ o e => hh _ _ e) [env.locals] (fun b hb => by rw [List.mem_singleton.mp hb]; exact X.gL)
  refine ⟨g', s, ⟨M, X.ns.keeps hh, out _ (.head _), X.neL, fun i x v e1 e2 => (X.locs i x v e1 e2).mono s (List.prefix_refl _), X.size⟩, fun b o e hn => ins b o e (fun hm => ?_) fun hm => ?_⟩
  · obtain ⟨p, hp, rfl⟩ := List.mem_map.mp hm
    obtain ⟨ob, hob⟩ := X.mem.there hp
    rw [hn] at hob; cases hob
  · obtain ⟨o, _, _, ho, _⟩ := X.ns
    rw [List.mem_singleton.mp hm, ho] at hn; cases hn

theorem St.put (X : St c env names g h ρ m σ) {k : Nat} {p : Addr × Addr} {o' : MO} (e : ρ[k]? = some p) (hs : Heap.SameBut p.2 h h') (ho : ObjIs c.prog c.w c.attrs c.T.fld g ρ o' p h') : St c env names g h' ρ m ⟨σ.loc, σ.obs.set k o'⟩ :=
  ⟨X.mem.put e hs ho, X.ns.sameBut hs (Ne.symm (X.neL p (List.mem_of_getElem? e))), X.gL, X.neL, X.locs, X.size⟩

theorem St.new (X : St c env names g h ρ m σ) {p : Addr × Addr} {o : MO} (hc : g.get? p.2 = none) (hf : c.g₀.objs.size ≤ p.2) (hn : p.2 ∉ ρ.map (·.2)) (hL : p.2 ≠ env.locals) (ho : ObjIs c.prog c.w c.attrs c.T.fld g (ρ ++ [p]) o p h) : St c env names g h (ρ ++ [p]) m ⟨σ.loc, σ.obs ++ [o]⟩ := by
  refine ⟨X.mem.new hc hf hn ho, X.ns, X.gL, fun q hq => ?_, fun i x v e1 e2 => (X.locs i x v e1 e2).mono (Sub.refl _) (List.prefix_append _ _), X.size⟩
  rcases List.mem_append.mp hq with hq | hq
  · exact X.neL q hq
  · rw [List.mem_singleton.mp hq]; exact hL

/-- a name of the frame is bound -/
theorem St.bind (X : St c env names g h ρ m σ) (F : Frm c env names) {i : Nat} {x : Str} {v : MV} {u : Value} (e : names[i]? = some x) (hk : env.kindOf x = some .local) (hu : Is g ρ v u) (hn : h'.Ns env.locals (fun y => if y = x then some u else m y)) (hs : Heap.SameBut env.locals h h') :
    St c env names g h' ρ (fun y => if y = x then some u else m y) ⟨σ.loc.set i (some v), σ.obs⟩ := by
  refine ⟨⟨X.mem.base, fun b o eb => (hs.2 b fun z => ?_).trans (X.mem.keep b o eb), X.mem.len, X.mem.cell, X.mem.fresh, X.mem.nd, fun k o p e1 e2 => ?_⟩, hn, X.gL, X.neL, fun j y v' e1 e2 => ?_, by rw [List.length_set]; exact X.size⟩
  · subst z; rw [X.gL] at eb; cases eb
  · exact (X.mem.objs k o p e1 e2).mono (Sub.refl _) (List.prefix_refl _) fun ob hob => (hs.2 _ (X.neL p (List.mem_of_getElem? e2))).trans hob
  · by_cases hj : i = j
    · subst hj
      rw [e] at e1; cases e1
      have hi : i < σ.loc.length := X.size ▸ (List.getElem?_eq_some_iff.mp e).1
      have e2' : (σ.loc.set i (some v))[i]? = some (some v') := e2
      rw [List.getElem?_set_self hi] at e2'; cases e2'
      exact ⟨u, hu, .inl ⟨hk, by simp⟩⟩
    · have e2' : (σ.loc.set i (some v))[j]? = some (some v') := e2
      rw [List.getElem?_set_ne hj] at e2'
      obtain ⟨u', hu', hk'⟩ := X.locs j y v' e1 e2'
      refine ⟨u', hu', hk'.imp (fun ⟨a, b⟩ => ⟨a, ?_⟩) id⟩
      have hne : y ≠ x := fun z => hj (nodup_getS F.nd e (z ▸ e1))
      simp [hne, b]
where
  nodup_getS {l : List Str} (nd : l.Nodup) {i j : Nat} {a : Str} (e1 : l[i]? = some a) (e2 : l[j]? = some a) : i = j :=
    (List.getElem?_inj (List.getElem?_eq_some_iff.mp e1).1 nd).mp (e1.trans e2.symm)
end

/-- there is room for n calls more -/
noncomputable def Rm (A : Around) (n : Nat) : Prop := A.handled = none ∧ A.depth + 2 * n + 1 < recursionLimit ∧ A.units + 20 * n + 60 < cLine
/-- for a call itself -/
noncomputable def RmC (A : Around) (n : Nat) : Prop := A.handled = none ∧ A.depth + 2 * n < recursionLimit ∧ A.units + 20 * n + 50 < cLine
theorem Rm.c {A : Around} {n : Nat} (h : Rm A n) : RmC A n := ⟨h.1, by have := h.2.1; omega, by have := h.2.2; omega⟩
theorem RmC.deeper {A : Around} {n : Nat} (h : RmC A (n + 1)) (env : Env) : Rm (A.deeper env) n :=
  ⟨h.1, by have := h.2.1; show A.depth + 1 + 2 * n + 1 < _; omega, by have := h.2.2; show A.units + 3 + 20 * n + 60 < _; omega⟩

noncomputable def OkE (c : Cfg) (env : Env) (names : List Str) (g : Heap) (ρ : Locs) {α β : Type} (R : Heap → Locs → α → β → Prop) (k : α → S → Prop) (Q : β → Shared → Prop) (s : Shared) : Prop :=
  ∀ (x : α) (σ' : S) (g' : Heap) (ρ' : Locs) (m' : Str → Option Value) (v : β) (h' : Heap) (tk' : Nat), k x σ' → Sub g g' → ρ <+: ρ' → St c env names g' h' ρ' m' σ' → R g' ρ' x v → Q v { s with heap := h', toks := tk' }

/-- the tree t does what V says -/
noncomputable def Sim (c : Cfg) (env : Env) (names : List Str) (n : Nat) {α β : Type} (R : Heap → Locs → α → β → Prop) (t : Sem β) (V : S → (α → S → Prop) → Prop) : Prop :=
  ∀ (A : Around) (σ : S) (k : α → S → Prop) (g : Heap) (ρ : Locs) (m : Str → Option Value) (s : Shared) (Q : β → Shared → Prop) (E : Value → Shared → Prop), Rm A n → V σ k → St c env names g s.heap ρ m σ → OkE c env names g ρ R k Q s → wpAny (model c.prog c.w) A t Q E s

noncomputable abbrev SimE (c : Cfg) (env : Env) (names : List Str) (n : Nat) (t : Sem Value) (V : S → (MV → S → Prop) → Prop) : Prop := Sim c env names n (fun g ρ x v => Is g ρ x v) t V
noncomputable abbrev SimEs (c : Cfg) (env : Env) (names : List Str) (n : Nat) (t : Sem (List Value)) (V : S → (List MV → S → Prop) → Prop) : Prop := Sim c env names n (fun g ρ x v => IsAll g ρ x v) t V
noncomputable abbrev SimT (c : Cfg) (env : Env) (names : List Str) (n : Nat) (t : Sem Bool) (V : S → (Bool → S → Prop) → Prop) : Prop := Sim c env names n (fun _ _ x v => x = v) t V

inductive FlIs (g : Heap) (ρ : Locs) : Fl → Flow → Prop
  | next : FlIs g ρ .next .next
  | cont : FlIs g ρ .cont .cont
  | brk : FlIs g ρ .brk .brk
  | ret {v : MV} {u : Value} : Is g ρ v u → FlIs g ρ (.ret v) (.ret u)
noncomputable abbrev SimS (c : Cfg) (env : Env) (names : List Str) (n : Nat) (t : Sem Flow) (V : S → (Fl → S → Prop) → Prop) : Prop := Sim c env names n (fun g ρ x v => FlIs g ρ x v) t V

end Mine
end

section
open PySem PySem.W PyProof.Rows PySem.Calls
set_option Elab.async false
set_option maxRecDepth 100000
set_option linter.unusedVariables false
set_option linter.unusedSectionVars false

namespace Mine

section
variable {c : Cfg} {env : Env} {names : List Str} {n : Nat} {G : Orc}

theorem sim_mono {α β : Type} {R : Heap → Locs → α → β → Prop} {t : Sem β} {V V' : S → (α → S → Prop) → Prop} (h : Sim c env names n R t V) (w : ∀ s k, V' s k → V s k) : Sim c env names n R t V' :=
  fun A σ k g ρ m s Q E hr hv => h A σ k g ρ m s Q E hr (w _ _ hv)

/-- nothing of the heap changes, the value is there -/
theorem sim_here {t : Sem Value} {V : S → (MV → S → Prop) → Prop}
    (h : ∀ (A : Around) (σ : S) (k : MV → S → Prop) (g : Heap) (ρ : Locs) (m : Str → Option Value) (s : Shared) (Q : Value → Shared → Prop) (E : Value → Shared → Prop), Rm A n → V σ k → St c env names g s.heap ρ m σ →
      (∀ x v tk, k x σ → Is g ρ x v → Q v { s with toks := tk }) → wpAny (model c.prog c.w) A t Q E s) : SimE c env names n t V :=
  fun A σ k g ρ m s Q E hr hv X ok => h A σ k g ρ m s Q E hr hv X fun x v tk hk hi => ok x σ g ρ m v s.heap tk hk (Sub.refl _) (List.prefix_refl _) X hi

theorem need_some {α : Type} {o : Option α} {k : α → Prop} (h : need o k) : ∃ a, o = some a ∧ k a := by
  cases o with
  | none => exact h.elim
  | some a => exact ⟨a, rfl, h⟩

theorem sim_loc {x : Str} {pos : Pos} {i : Nat} (F : Frm c env names) (e : names[i]? = some x) (hd : (x == ("__debug__" : Str)) = false) : SimE c env names n (eval (.Name x pos) env) (evE G c.T (.loc i)) := by
  refine sim_here fun A σ k g ρ m s Q E hr hv X ok => ?_
  unfold evE at hv
  obtain ⟨o, ho, hv⟩ := need_some hv
  obtain ⟨v, rfl, hv⟩ := need_some hv
  obtain ⟨u, hu, hk⟩ := X.locs i x v e ho
  have fin : Q u s := ok v u s.toks hv hu
  rcases hk with ⟨hl, hm⟩ | ⟨hl, a, ob, e1, e2, e3⟩
  · exact wpAny_Name (wpAny_loadName_local F.kind hl X.ns hm fin) hd
  · exact wpAny_Name (wpAny_loadName_cell F.kind hl e1 ⟨ob, X.mem.keep _ _ e2, e3⟩ fin) hd

theorem sim_int {i : Int} {k : Nat} {pos : Pos} : SimE c env names n (eval (.Constant (.int i) k pos) env) (evE G c.T (.lit (.int i))) :=
  sim_here fun _ _ _ _ _ _ s _ _ _ hv _ ok => wpAny_Constant_int (ok _ _ _ hv (.int i s.toks))
theorem sim_str {x : Str} {k : Nat} {pos : Pos} : SimE c env names n (eval (.Constant (.str x) k pos) env) (evE G c.T (.lit (.str x))) :=
  sim_here fun _ _ _ _ _ _ s _ _ _ hv _ ok => wpAny_Constant_str (ok _ _ _ hv (.str x s.toks))
theorem sim_bool {b : Bool} {k : Nat} {pos : Pos} : SimE c env names n (eval (.Constant (.bool b) k pos) env) (evE G c.T (.lit (.bool b))) :=
  sim_here fun _ _ _ _ _ _ s _ _ _ hv _ ok => wpAny_Constant_bool (ok _ _ s.toks hv (.bool b))
theorem sim_none {k : Nat} {pos : Pos} : SimE c env names n (eval (.Constant .none k pos) env) (evE G c.T (.lit .none)) :=
  sim_here fun _ _ _ _ _ _ s _ _ _ hv _ ok => wpAny_Constant_none (ok _ _ s.toks hv .none)

theorem Mem.gns {g h : Heap} {ρ : Locs} {O : List MO} (M : Mem c g h ρ O) {a : Addr} {m : Str → Option Value} (x : c.g₀.Ns a m) : h.Ns a m := x.keeps (M.base.trans M.keep)

/-- a global name that holds a function, a class -/
theorem load_global {A : Around} {x : Str} {pos : Pos} {v : Value} {g : Heap} {ρ : Locs} {m : Str → Option Value} {σ : S} {s : Shared} {Q : Value → Shared → Prop} {E : Value → Shared → Prop}
    (C : c.Ok) (F : Frm c env names) (hx : env.kindOf x = some .globalImplicit) (e : nsIn c.K mainGlobals x = some (some v)) (hd : (x == ("__debug__" : Str)) = false) (X : St c env names g s.heap ρ m σ) (h : Q v s) :
    wpAny (model c.prog c.w) A (eval (.Name x pos) env) Q E s :=
  Name_function_global F.kind hx (loadGlobal_global (by rw [F.glob]; exact X.mem.gns C.g) (mg_of C.kin C.g e) h) hd
theorem load_builtin {A : Around} {x : Str} {pos : Pos} {v : Value} {g : Heap} {ρ : Locs} {m : Str → Option Value} {σ : S} {s : Shared} {Q : Value → Shared → Prop} {E : Value → Shared → Prop}
    (C : c.Ok) (F : Frm c env names) (hx : env.kindOf x = some .globalImplicit) (e : nsIn c.K mainGlobals x = some none) (hv : bootBuiltins x = some v) (hn : x ≠ "__name__") (hd : (x == ("__debug__" : Str)) = false) (X : St c env names g s.heap ρ m σ) (h : Q v s) :
    wpAny (model c.prog c.w) A (eval (.Name x pos) env) Q E s :=
  Name_function_global F.kind hx (loadGlobal_builtin (by rw [F.glob]; exact X.mem.gns C.g) (mg_none_of C.kin C.g e) (by rw [F.blt]; exact X.mem.gns C.b) ((C.builtins x hn).trans hv) h) hd

theorem sim_glob {x : Str} {pos : Pos} {v : MV} {u : Value} (C : c.Ok) (F : Frm c env names) (hx : env.kindOf x = some .globalImplicit) (e : nsIn c.K mainGlobals x = some (some u)) (hi : Is c.g₀ [] v u) (hd : (x == ("__debug__" : Str)) = false) :
    SimE c env names n (eval (.Name x pos) env) (evE G c.T (.lit v)) :=
  sim_here fun _ _ _ _ _ _ s _ _ _ hv X ok => load_global C F hx e hd X (ok _ _ s.toks hv (hi.mono X.mem.base (List.nil_prefix)))

theorem sim_bin {op : BOp} {o : Operator} {l r : Expr} {pos : Pos} {a b : ME} (h1 : SimE c env names n (eval l env) (evE G c.T a)) (h2 : SimE c env names n (eval r env) (evE G c.T b))
    (ho : ∀ (A : Around) (s : Shared) (x y : Int) (t u : Tok) (k : MV → Prop) (Q : Value → Shared → Prop) (E : Value → Shared → Prop), Rm A n → (opB op x y fun z => k (.int z)) → (∀ z tk tk', k (.int z) → Q (.int z tk') { s with toks := tk }) → wpAny (model c.prog c.w) A (binaryOp o (.int x t) (.int y u)) Q E s) :
    SimE c env names n (eval (.BinOp l o r pos) env) (evE G c.T (.bin op a b)) := by
  intro A σ k g ρ m s Q E hr hv X ok
  refine wpAny_BinOp (h1 A σ _ g ρ m s _ E hr (by unfold evE at hv; exact hv) X ?_)
  intro x σ1 g1 ρ1 m1 v1 H1 t1 hk1 s1 p1 X1 i1
  refine h2 A σ1 _ g1 ρ1 m1 { s with heap := H1, toks := t1 } _ E hr hk1 X1 ?_
  intro y σ2 g2 ρ2 m2 v2 H2 t2 hk2 s2 p2 X2 i2
  unfold binV at hk2
  have i1' := i1.mono s2 p2
  cases i1' <;> first | exact hk2.elim | skip
  rename_i xi xt
  cases i2 <;> first | exact hk2.elim | skip
  rename_i yi yt
  refine ho A _ xi yi xt yt (fun v => k v σ2) Q E hr hk2 fun z tk tk' hz => ?_
  exact ok _ σ2 g2 ρ2 m2 _ H2 tk hz (s1.trans s2) (p1.trans p2) X2 (.int z tk')

theorem op_add {A : Around} {s : Shared} {x y : Int} {t u : Tok} {k : MV → Prop} {Q : Value → Shared → Prop} {E : Value → Shared → Prop} (_ : Rm A n) (h : opB .add x y fun z => k (.int z)) (q : ∀ z tk tk', k (.int z) → Q (.int z tk') { s with toks := tk }) : wpAny (model c.prog c.w) A (binaryOp .Add (.int x t) (.int y u)) Q E s :=
  PyProof.Rows.add_int (q _ _ _ h)
theorem op_sub {A : Around} {s : Shared} {x y : Int} {t u : Tok} {k : MV → Prop} {Q : Value → Shared → Prop} {E : Value → Shared → Prop} (_ : Rm A n) (h : opB .sub x y fun z => k (.int z)) (q : ∀ z tk tk', k (.int z) → Q (.int z tk') { s with toks := tk }) : wpAny (model c.prog c.w) A (binaryOp .Sub (.int x t) (.int y u)) Q E s :=
  PyProof.Rows.sub_int (q _ _ _ h)
theorem op_mod {A : Around} {s : Shared} {x y : Int} {t u : Tok} {k : MV → Prop} {Q : Value → Shared → Prop} {E : Value → Shared → Prop} (_ : Rm A n) (h : opB .mod x y fun z => k (.int z)) (q : ∀ z tk tk', k (.int z) → Q (.int z tk') { s with toks := tk }) : wpAny (model c.prog c.w) A (binaryOp .Mod (.int x t) (.int y u)) Q E s :=
  PyProof.Rows.mod_int' (by have := h.1; omega) (q _ _ _ h.2)
theorem op_fdiv {A : Around} {s : Shared} {x y : Int} {t u : Tok} {k : MV → Prop} {Q : Value → Shared → Prop} {E : Value → Shared → Prop} (_ : Rm A n) (h : opB .fdiv x y fun z => k (.int z)) (q : ∀ z tk tk', k (.int z) → Q (.int z tk') { s with toks := tk }) : wpAny (model c.prog c.w) A (binaryOp .FloorDiv (.int x t) (.int y u)) Q E s :=
  PyProof.Rows.floordiv_int (by have := h.1; omega) (q _ _ _ h.2.2) (.inl (PyProof.noPylong_of_log2 (by
    have h1 := h.1
    have h2 := h.2.1
    have h0 : y.natAbs ≠ 0 := by omega
    have : y.natAbs < 2 ^ 70 := by omega
    exact Nat.lt_trans ((Nat.log2_lt h0).mpr this) (by decide))))
theorem op_pow {A : Around} {s : Shared} {x y : Int} {t u : Tok} {k : MV → Prop} {Q : Value → Shared → Prop} {E : Value → Shared → Prop} (_ : Rm A n) (h : opB .pow x y fun z => k (.int z)) (q : ∀ z tk tk', k (.int z) → Q (.int z tk') { s with toks := tk }) : wpAny (model c.prog c.w) A (binaryOp .Pow (.int x t) (.int y u)) Q E s :=
  PyProof.Rows.pow_int_small h.1 (Int.le_trans h.2.1 (by decide)) h.2.2.1 (q _ _ _ h.2.2.2)

theorem sim_neg {x : Expr} {pos : Pos} {a : ME} (h1 : SimE c env names n (eval x env) (evE G c.T a)) : SimE c env names n (eval (.UnaryOp .USub x pos) env) (evE G c.T (.neg a)) := by
  intro A σ k g ρ m s Q E hr hv X ok
  refine wpAny_UnaryOp (h1 A σ _ g ρ m s _ E hr (by unfold evE at hv; exact hv) X ?_)
  intro x σ1 g1 ρ1 m1 v1 H1 t1 hk1 s1 p1 X1 i1
  cases i1 <;> first | exact hk1.elim | skip
  exact PySem.P.neg_int (ok _ σ1 g1 ρ1 m1 _ H1 _ hk1 s1 p1 X1 (.int _ _))

end
end Mine
end

section
open PySem PySem.W PyProof.Rows PySem.Calls
set_option Elab.async false
set_option maxRecDepth 100000
set_option linter.unusedVariables false
set_option linter.unusedSectionVars false

namespace Mine

section
variable {prog : Program} {w : World} {K : Type} [DecidableEq K] {g : Heap} {ρ : Locs}

inductive Z (inj : K → Key) (g : Heap) (ρ : Locs) : List (Key × MV) → List (K × Value) → Prop
  | nil : Z inj g ρ [] []
  | cons {k : K} {v : MV} {u : Value} {r : List (Key × MV)} {rs : List (K × Value)} : Is g ρ v u → Z inj g ρ r rs → Z inj g ρ ((inj k, v) :: r) ((k, u) :: rs)

structure KK (knd : KeyKind prog w K) (inj : K → Key) : Prop where
  to : ∀ {g : Heap} {ρ : Locs} {k : K} {v : Value}, Is g ρ (inj k).mv v → knd.is k v = true
  fro : ∀ {g : Heap} {ρ : Locs} {k : K} {v : Value}, knd.is k v = true → Is g ρ (inj k).mv v
  hash : ∀ k, hashK prog w (inj k) = knd.hash k
  one : ∀ a b, inj a = inj b → a = b

theorem kkI : KK (intKind prog w) Key.ki where
  to := fun h => by cases h; simp [PySem.intKind, Value.isInt]
  fro := fun h => by obtain ⟨t, rfl⟩ := Value.isInt_shape h; exact .int _ t
  hash := fun _ => rfl
  one := fun _ _ e => Key.ki.inj e
theorem kkS : KK (PySem.strKind prog w) Key.ks where
  to := fun h => by cases h; simp [PySem.strKind, Value.isStrOf]
  fro := fun h => by obtain ⟨t, rfl⟩ := Value.isStrOf_shape h; exact .str _ t
  hash := fun _ => rfl
  one := fun _ _ e => Key.ks.inj e

variable {knd : KeyKind prog w K} {inj : K → Key}

theorem ents_view (kk : KK knd inj) {es : List (Key × MV)} {ds : List DictEntry} (E : Ents prog w g ρ es ds) : (∀ p ∈ es, ∃ k, p.1 = inj k) →
    ∃ kvs, Pairs knd ds kvs ∧ (∀ e ∈ ds, ∃ k, knd.is k e.key = true ∧ e.hash = knd.hash k) ∧ Z inj g ρ es kvs := by
  induction E with
  | nil => exact fun _ => ⟨[], .nil, fun _ h => (nomatch h), .nil⟩
  | cons h1 h2 h3 r ih =>
    rename_i k v e r' rs'
    intro hk
    obtain ⟨kvs, P, H, z⟩ := ih fun p hp => hk p (.tail _ hp)
    obtain ⟨k', rfl⟩ : ∃ k', k = inj k' := hk _ (.head _)
    refine ⟨(k', e.val) :: kvs, .cons (kk.to h1) rfl P, fun e' he => ?_, .cons h2 z⟩
    rcases List.mem_cons.mp he with rfl | he
    · exact ⟨k', kk.to h1, h3.trans (kk.hash k')⟩
    · exact H e' he

theorem Z.ents (kk : KK knd inj) {es : List (Key × MV)} {ds : List DictEntry} {kvs : List (K × Value)} (P : Pairs knd ds kvs) (H : ∀ e ∈ ds, ∃ k, knd.is k e.key = true ∧ e.hash = knd.hash k) (z : Z inj g ρ es kvs) : Ents prog w g ρ es ds := by
  induction P generalizing es with
  | nil => cases z; exact .nil
  | cons h1 h2 P ih =>
    cases z with
    | cons hv z =>
    refine .cons (kk.fro h1) (h2 ▸ hv) ?_ (ih (fun e he => H e (.tail _ he)) z)
    obtain ⟨k', a, b⟩ := H _ (.head _)
    rw [b, kk.hash, knd.inj _ _ _ a h1]

theorem getK_cons (q : Key) (p : Key × MV) (r : List (Key × MV)) : getK q (p :: r) = if p.1 = q then some p.2 else getK q r := by
  unfold getK
  by_cases h : p.1 = q
  · rw [decide_eq_true h, if_pos h]
  · rw [decide_eq_false h, if_neg h]; cases r <;> rfl
theorem putK_cons (q : Key) (x : MV) (p : Key × MV) (r : List (Key × MV)) : putK q x (p :: r) = if p.1 = q then (p.1, x) :: r else p :: putK q x r := by
  show (match decide (p.1 = q) with | true => (p.1, x) :: r | false => p :: putK q x r) = _
  by_cases h : p.1 = q
  · rw [decide_eq_true h, if_pos h]
  · rw [decide_eq_false h, if_neg h]

theorem Z.get (kk : KK knd inj) {es : List (Key × MV)} {kvs : List (K × Value)} (k : K) (z : Z inj g ρ es kvs) : (∀ v, getK (inj k) es = some v → ∃ u, valueAt kvs k = some u ∧ Is g ρ v u) ∧ (getK (inj k) es = none → valueAt kvs k = none) := by
  induction z with
  | nil => exact ⟨fun v e => (nomatch e), fun _ => rfl⟩
  | cons hv z ih =>
    rename_i k' v u r rs
    obtain ⟨a, b⟩ := ih
    rw [getK_cons]
    unfold valueAt at a b ⊢
    simp only [List.find?_cons]
    by_cases h : k' = k
    · subst h
      simp only [if_true, decide_true]
      exact ⟨fun x e => ⟨u, rfl, Option.some.inj e ▸ hv⟩, fun e => (nomatch e)⟩
    · have h' : ¬ inj k' = inj k := fun e => h (kk.one _ _ e)
      simp only [h, h', if_false, decide_false]
      exact ⟨a, b⟩

theorem Z.isSome (kk : KK knd inj) {es : List (Key × MV)} {kvs : List (K × Value)} (k : K) (z : Z inj g ρ es kvs) : (getK (inj k) es).isSome = (valueAt kvs k).isSome := by
  obtain ⟨a, b⟩ := z.get kk k
  cases h : getK (inj k) es with
  | none => rw [b h]; rfl
  | some v => obtain ⟨u, hu, _⟩ := a v h; rw [hu]; rfl

theorem Z.keys {es : List (Key × MV)} {kvs : List (K × Value)} (z : Z inj g ρ es kvs) : es.map (·.1) = (kvs.map (·.1)).map inj := by
  induction z with
  | nil => rfl
  | cons _ z ih => rw [List.map_cons, List.map_cons, List.map_cons, ih]

theorem nodup_map_inj {α β : Type} {f : α → β} : ∀ {l : List α}, (l.map f).Nodup → l.Nodup
  | [], _ => .nil
  | a :: l, h => by
    rw [List.map_cons, List.nodup_cons] at h
    exact List.nodup_cons.mpr ⟨fun m => h.1 (List.mem_map_of_mem m), nodup_map_inj h.2⟩

theorem Z.len {es : List (Key × MV)} {kvs : List (K × Value)} (z : Z inj g ρ es kvs) : es.length = kvs.length := by
  induction z with
  | nil => rfl
  | cons _ z ih => rw [List.length_cons, List.length_cons, ih]

theorem putK_old {q : Key} {x : MV} : ∀ {es : List (Key × MV)}, q ∉ es.map (·.1) → putK q x es = es ++ [(q, x)]
  | [], _ => rfl
  | p :: r, h => by
    rw [List.map_cons, List.mem_cons, not_or] at h
    rw [putK_cons, if_neg (Ne.symm h.1), putK_old h.2]; rfl

theorem putK_keys {q : Key} {x : MV} : ∀ {es : List (Key × MV)}, q ∈ es.map (·.1) → (putK q x es).map (·.1) = es.map (·.1)
  | [], h => (nomatch h)
  | p :: r, h => by
    rw [putK_cons]
    by_cases hq : p.1 = q
    · rw [if_pos hq]; rfl
    · rw [if_neg hq, List.map_cons, List.map_cons, putK_keys (by
        rcases List.mem_cons.mp h with e | m
        · exact absurd e.symm hq
        · exact m)]

theorem putK_nodup {q : Key} {x : MV} {es : List (Key × MV)} (nd : (es.map (·.1)).Nodup) : ((putK q x es).map (·.1)).Nodup := by
  by_cases h : q ∈ es.map (·.1)
  · rw [putK_keys h]; exact nd
  · rw [putK_old h, List.map_append, List.nodup_append]
    refine ⟨nd, by simp, ?_⟩
    intro a ha b hb
    simp at hb; subst hb
    exact fun e => h (e ▸ ha)

theorem Z.put (kk : KK knd inj) {k : K} {v : MV} {u : Value} (hv : Is g ρ v u) {es : List (Key × MV)} {kvs : List (K × Value)} (z : Z inj g ρ es kvs) : (kvs.map (·.1)).Nodup → Z inj g ρ (putK (inj k) v es) (stored kvs k u) := by
  induction z with
  | nil =>
    intro _
    have e : stored ([] : List (K × Value)) k u = [(k, u)] := rfl
    rw [e]; exact .cons hv .nil
  | cons h z ih =>
    rename_i k' v' u' r rs
    intro nd
    rw [List.map_cons, List.nodup_cons] at nd
    have ih := ih nd.2
    rw [putK_cons]
    by_cases hk : k' = k
    · subst hk
      rw [if_pos rfl]
      have : stored ((k', u') :: rs) k' u = (k', u) :: rs := by
        unfold stored
        rw [if_pos (by simp)]
        rw [List.map_cons, map_store_of_not_mem rs k' u nd.1]
        simp
      rw [this]
      exact .cons hv z
    · rw [if_neg fun e => hk (kk.one _ _ e)]
      have : stored ((k', u') :: rs) k u = (k', u') :: stored rs k u := by
        unfold stored
        simp only [List.any_cons, decide_eq_false hk, Bool.false_or, List.map_cons, if_neg hk]
        split <;> rfl
      have r : Z inj g ρ ((inj k', v') :: putK (inj k) v r) ((k', u') :: stored rs k u) := .cons h ih
      rw [this]
      exact r

/-! ### keys that are tuples of ints -/
noncomputable abbrev TK (prog : Program) (w : World) : HeapKind prog w (List Int) := tupleKind (intKind prog w)

inductive ZT (g : Heap) (ρ : Locs) : List (Key × MV) → List (List Int × Addr × Value) → Prop
  | nil : ZT g ρ [] []
  | cons {l : List Int} {a : Addr} {v : MV} {u : Value} {r : List (Key × MV)} {rs : List (List Int × Addr × Value)} : Is g ρ v u → ZT g ρ r rs → ZT g ρ ((.kt l, v) :: r) ((l, a, u) :: rs)

theorem items_of : ∀ {l : List Int} {vs : List Value}, IsAll g ρ (l.map MV.int) vs → ItemsAre (intKind prog w) l vs
  | [], _, .nil => .nil
  | _ :: _, _, .cons h r => .cons (by cases h; simp [PySem.intKind, Value.isInt]) (items_of r)
theorem of_items {l : List Int} {vs : List Value} (h : ItemsAre (intKind prog w) l vs) : IsAll g ρ (l.map MV.int) vs := by
  induction h with
  | nil => exact .nil
  | cons h r ih => exact .cons (by obtain ⟨t, rfl⟩ := Value.isInt_shape h; exact .int _ t) ih
theorem tkey_of {l : List Int} {v : Value} (h : Is g ρ (Key.kt l).mv v) : ∃ a, v = .ref a ∧ IsTupleKey (intKind prog w) g l a := by
  cases h with
  | tup ht hr =>
    obtain ⟨o, ho, hc, n, hd⟩ := ht
    exact ⟨_, rfl, o, _, n, ho, hc, hd, items_of hr⟩
theorem of_tkey {l : List Int} {a : Addr} (h : IsTupleKey (intKind prog w) g l a) : Is g ρ (Key.kt l).mv (.ref a) := by
  obtain ⟨o, items, n, ho, hc, hd, hi⟩ := h
  exact .tup (vs := items.toList) ⟨o, ho, hc, n, hd⟩ (of_items hi)

theorem ents_viewT {es : List (Key × MV)} {ds : List DictEntry} (E : Ents prog w g ρ es ds) : (∀ p ∈ es, ∃ l, p.1 = .kt l) →
    ∃ xs, ds = xs.map (entryOfKey (TK prog w)) ∧ (∀ x ∈ xs, IsTupleKey (intKind prog w) g x.1 x.2.1) ∧ ZT g ρ es xs := by
  induction E with
  | nil => exact fun _ => ⟨[], rfl, fun _ h => (nomatch h), .nil⟩
  | cons h1 h2 h3 r ih =>
    rename_i k v e r' rs'
    intro hk
    obtain ⟨xs, P, H, z⟩ := ih fun p hp => hk p (.tail _ hp)
    obtain ⟨l, rfl⟩ : ∃ l, k = .kt l := hk _ (.head _)
    obtain ⟨a, ea, ha⟩ := tkey_of (prog := prog) (w := w) h1
    refine ⟨(l, a, e.val) :: xs, ?_, fun x hx => ?_, .cons h2 z⟩
    · rw [List.map_cons, ← P]
      obtain ⟨eh, ek, ev⟩ := e
      dsimp only at ea h3
      subst ea h3
      rfl
    · rcases List.mem_cons.mp hx with rfl | hx
      · exact ha
      · exact H x hx

theorem ZT.ents {es : List (Key × MV)} {xs : List (List Int × Addr × Value)} (H : ∀ x ∈ xs, IsTupleKey (intKind prog w) g x.1 x.2.1) (z : ZT g ρ es xs) : Ents prog w g ρ es (xs.map (entryOfKey (TK prog w))) := by
  induction z with
  | nil => exact .nil
  | cons hv z ih => exact .cons (of_tkey (H _ (.head _))) hv rfl (ih fun x hx => H x (.tail _ hx))

theorem ZT.get (l : List Int) {es : List (Key × MV)} {xs : List (List Int × Addr × Value)} (z : ZT g ρ es xs) : (∀ v, getK (.kt l) es = some v → ∃ p, atKey xs l = some p ∧ Is g ρ v p.2) ∧ (getK (.kt l) es = none → atKey xs l = none) := by
  induction z with
  | nil => exact ⟨fun v e => (nomatch e), fun _ => rfl⟩
  | cons hv z ih =>
    rename_i l' a v u r rs
    obtain ⟨A, B⟩ := ih
    rw [getK_cons]
    unfold atKey at A B ⊢
    simp only [List.find?_cons]
    by_cases h : l' = l
    · subst h
      simp only [if_true, decide_true]
      exact ⟨fun x e => ⟨(a, u), rfl, Option.some.inj e ▸ hv⟩, fun e => (nomatch e)⟩
    · have h' : ¬ Key.kt l' = Key.kt l := fun e => h (Key.kt.inj e)
      simp only [h, h', if_false, decide_false]
      exact ⟨A, B⟩

theorem ZT.keys {es : List (Key × MV)} {xs : List (List Int × Addr × Value)} (z : ZT g ρ es xs) : es.map (·.1) = (xs.map (·.1)).map Key.kt := by
  induction z with
  | nil => rfl
  | cons _ z ih => rw [List.map_cons, List.map_cons, List.map_cons, ih]
theorem ZT.len {es : List (Key × MV)} {xs : List (List Int × Addr × Value)} (z : ZT g ρ es xs) : es.length = xs.length := by
  induction z with
  | nil => rfl
  | cons _ z ih => rw [List.length_cons, List.length_cons, ih]
theorem ZT.app {es fs : List (Key × MV)} {xs ys : List (List Int × Addr × Value)} (z : ZT g ρ es xs) (h : ZT g ρ fs ys) : ZT g ρ (es ++ fs) (xs ++ ys) := by
  induction z with
  | nil => exact h
  | cons a z ih => exact .cons a ih

end
end Mine
end

section
open PySem PySem.W PyProof.Rows PySem.Calls
set_option Elab.async false
set_option maxRecDepth 100000
set_option linter.unusedVariables false
set_option linter.unusedSectionVars false

namespace Mine

theorem handed_of {g : Heap} {ρ : Locs} {x : MV} {v : Value} (h : Is g ρ x v) : handedIn v = true := by cases h <;> rfl

section
variable {attrs : List Str} {g : Heap} {ρ : Locs}

theorem getF_cons (a : Nat) (p : Nat × MV) (r : List (Nat × MV)) : getF a (p :: r) = if p.1 = a then some p.2 else getF a r := by
  show (match Nat.beq p.1 a with | true => some p.2 | false => getF a r) = _
  by_cases h : p.1 = a
  · rw [if_pos h, h, Nat.beq_refl]
  · rw [if_neg h]
    cases e : Nat.beq p.1 a with
    | true => exact absurd (Nat.eq_of_beq_eq_true e) h
    | false => rfl
theorem putF_cons (a : Nat) (x : MV) (p : Nat × MV) (r : List (Nat × MV)) : putF a x (p :: r) = if p.1 = a then (a, x) :: r else p :: putF a x r := by
  show (match Nat.beq p.1 a with | true => (a, x) :: r | false => p :: putF a x r) = _
  by_cases h : p.1 = a
  · rw [if_pos h, h, Nat.beq_refl]
  · rw [if_neg h]
    cases e : Nat.beq p.1 a with
    | true => exact absurd (Nat.eq_of_beq_eq_true e) h
    | false => rfl

theorem isStr_of {x y : Str} {t : Tok} : (Value.str x t).isStr y = decide (x = y) := by
  show (x == y) = _
  by_cases h : x = y
  · subst h; simp
  · rw [decide_eq_false h]; exact beq_eq_false_iff_ne.mpr h

theorem attr_inj (nd : attrs.Nodup) {a b : Nat} {x : Str} (e1 : attrs[a]? = some x) (e2 : attrs[b]? = some x) : a = b :=
  (List.getElem?_inj (List.getElem?_eq_some_iff.mp e1).1 nd).mp (e1.trans e2.symm)

theorem Flds.noRef {fs : List (Nat × MV)} {ds : List DictEntry} (h : Flds attrs g ρ fs ds) : ds.any (·.refKey) = false := by
  induction h with
  | nil => rfl
  | cons _ b _ r ih => rw [List.any_cons, ih, Bool.or_false]; unfold DictEntry.refKey; rw [b]

theorem getL_of {x : Str} {ds : List DictEntry} (h : ds.any (·.refKey) = false) : getL x ds = some ((ds.find? (·.key.isStr x)).map (·.val)) := by
  unfold getL
  cases e : ds.find? (·.key.isStr x) with
  | some d => rfl
  | none => simp only [h, Bool.false_eq_true, if_false]; rfl

theorem Flds.get (nd : attrs.Nodup) {a : Nat} {x : Str} (ha : attrs[a]? = some x) {fs : List (Nat × MV)} {ds : List DictEntry} (F : Flds attrs g ρ fs ds) :
    (∀ v, getF a fs = some v → ∃ d, ds.find? (·.key.isStr x) = some d ∧ Is g ρ v d.val) ∧ (getF a fs = none → ds.find? (·.key.isStr x) = none) := by
  induction F with
  | nil => exact ⟨fun v e => (nomatch e), fun _ => rfl⟩
  | cons h1 h2 h3 r ih =>
    rename_i a' v d y t r' rs'
    obtain ⟨A, B⟩ := ih
    rw [getF_cons]
    simp only [List.find?_cons, h2, isStr_of]
    by_cases h : a' = a
    · subst h
      obtain rfl : y = x := Option.some.inj (h1.symm.trans ha)
      simp only [if_true, decide_true]
      exact ⟨fun u e => ⟨d, rfl, Option.some.inj e ▸ h3⟩, fun e => (nomatch e)⟩
    · have h' : ¬ y = x := fun e => h (attr_inj nd (e ▸ h1) ha)
      simp only [h, h', if_false, decide_false]
      exact ⟨A, B⟩

theorem Flds.put (nd : attrs.Nodup) {a : Nat} {x : Str} {v : MV} {u : Value} {hsh : Int} {t : Tok} (ha : attrs[a]? = some x) (hv : Is g ρ v u) {fs : List (Nat × MV)} {ds : List DictEntry} (F : Flds attrs g ρ fs ds) :
    Flds attrs g ρ (putF a v fs) (putL x hsh (.str x t) u ds) := by
  induction F with
  | nil => exact .cons ha rfl hv .nil
  | cons h1 h2 h3 r ih =>
    rename_i a' v' d y t' r' rs'
    rw [putF_cons]
    unfold putL
    rw [h2, isStr_of]
    by_cases h : a' = a
    · subst h
      obtain rfl : y = x := Option.some.inj (h1.symm.trans ha)
      simp only [if_true, decide_true]
      exact .cons ha rfl hv r
    · have h' : ¬ y = x := fun e => h (attr_inj nd (e ▸ h1) ha)
      simp only [h, h', if_false, decide_false, Bool.false_eq_true]
      exact .cons h1 h2 h3 ih
theorem Flds.len {fs : List (Nat × MV)} {ds : List DictEntry} (h : Flds attrs g ρ fs ds) : fs.length = ds.length := by
  induction h with
  | nil => rfl
  | cons _ _ _ r ih => exact congrArg Nat.succ ih
theorem putL_len (x : Str) (hsh : Int) (k v : Value) : ∀ ds : List DictEntry, (putL x hsh k v ds).length ≤ ds.length + 1
  | [] => Nat.le_refl _
  | d :: r => by
    unfold putL
    split
    · simp
    · have := putL_len x hsh k v r; simp; omega
end

section
variable {c : Cfg} {env : Env} {names : List Str} {n : Nat} {G : Orc} {g h : Heap} {ρ : Locs} {O : List MO} {m : Str → Option Value} {σ : S}

/-- an object of one's own, at its place -/
theorem Mem.own (M : Mem c g h ρ O) {p : Nat} {v : Value} {o : MO} (hv : Is g ρ (.own p) v) (e : O[p]? = some o) : ∃ a d, v = .ref a ∧ ρ[p]? = some (a, d) ∧ ObjIs c.prog c.w c.attrs c.T.fld g ρ o (a, d) h := by
  cases hv with
  | own hρ => exact ⟨_, _, rfl, hρ, M.objs p o _ e hρ⟩

theorem Mem.inst (M : Mem c g h ρ O) {a d : Addr} {cc : Nat} {fs : List (Nat × MV)} (x : ObjIs c.prog c.w c.attrs c.T.fld g ρ (.inst cc fs) (a, d) h) : ∃ ds k, PySem.W.InstAt h a (instObj cc d) cc (some (dictOf ds k)) ∧ Flds c.attrs g ρ fs ds ∧ (∀ q ∈ fs, c.T.fld cc q.1 = true) := by
  obtain ⟨e, ok, ds, k, hd, fl⟩ := x
  exact ⟨ds, k, ⟨M.keep _ _ e, rfl, rfl, hd⟩, fl, ok⟩

theorem getF_mem {a : Nat} {v : MV} : ∀ {fs : List (Nat × MV)}, getF a fs = some v → (a, v) ∈ fs
  | [], e => (nomatch e)
  | p :: r, e => by
    rw [getF_cons] at e
    by_cases hp : p.1 = a
    · rw [if_pos hp] at e; subst hp; cases e; exact .head _
    · rw [if_neg hp] at e; exact .tail _ (getF_mem e)

theorem attrOk_of {K : Frag} {C : Addr} {x : Str} (e : attrOk K C x = true) : plainGet K C x = true ∧ hasDictIn K C = true ∧ (∃ at', findIn K (.ref C) x = some at' ∧ noGet K at' = true) ∧ findIn K (.ref C) "__setattr__" = some (some (.builtin "object.__setattr__")) ∧ plainOver K C = true ∧ takerIn K C x = some none := by
  simp only [attrOk, Bool.and_eq_true, beq_iff_eq] at e
  obtain ⟨⟨⟨⟨⟨e1, e2⟩, e3⟩, e4⟩, e5⟩, e6⟩ := e
  obtain ⟨y, hy, hn⟩ := any_some e3
  exact ⟨e1, e2, ⟨y, hy, hn⟩, e4, e5, e6⟩

theorem sim_attr {o : Expr} {x : Str} {pos : Pos} {e : ME} {a : Nat} (C : c.Ok) (ha : c.attrs[a]? = some x)
    (he : eval (.Attribute o x pos) env = (do
      let v ← eval o env
      standAt pos.atName
      let r ← holding [v] (getAttr v x true)
      letTemporaryGo o v r
      pure r))
    (h1 : SimE c env names n (eval o env) (evE G c.T e)) : SimE c env names n (eval (.Attribute o x pos) env) (evE G c.T (.attr e a)) := by
  intro A σ k g ρ m s Q E hr hv X ok
  refine Attribute_any_ (h1 A σ _ g ρ m s _ E hr (by unfold evE at hv; exact hv) X ?_) he
  intro y σ1 g1 ρ1 m1 v1 H1 t1 hk1 s1 p1 X1 i1
  unfold getA at hk1
  cases y <;> first | exact hk1.elim | skip
  rename_i p
  obtain ⟨ob, hob, hk1⟩ := need_some hk1
  cases ob <;> first | exact hk1.elim | skip
  rename_i cc fs
  obtain ⟨r, hgr, hk1⟩ := need_some hk1
  obtain ⟨ad, d, rfl, hρ, hO⟩ := X1.mem.own i1 hob
  obtain ⟨ds, kk, I, fl, okf⟩ := X1.mem.inst hO
  obtain ⟨A1, A2, ⟨at', A3, A4⟩, _⟩ := attrOk_of (C.fld cc a x (okf _ (getF_mem hgr)) ha)
  obtain ⟨de, hde, hi⟩ := (fl.get C.anodup ha).1 r hgr
  have hl : lookIn x (dictOf ds kk) = some (some de.val) := by rw [lookIn_dict, getL_of fl.noRef, hde]; rfl
  refine get_value (C.kin.keeps (X1.mem.base.trans X1.mem.keep)) I (plainGet_of A1).1 (findObj_own A2 A3 A4 hl) (handed_of hi) ?_
  exact ok r σ1 g1 ρ1 m1 de.val H1 _ hk1 s1 p1 X1 hi

/-! ### dicts -/
theorem sys_ne (C : c.Ok) (M : Mem c g h ρ O) {p : Nat} {q : Addr × Addr} (e : ρ[p]? = some q) : (q.2 == sysModules) = false := by
  exact beq_eq_false_iff_ne.mpr (Nat.ne_of_gt (Nat.lt_of_lt_of_le C.sys (M.fresh q (List.mem_of_getElem? e))))

theorem Mem.dictOf {K : Type} [DecidableEq K] {knd : PySem.KeyKind c.prog c.w K} {inj : K → Key} (kk : KK knd inj) (C : c.Ok) (M : Mem c g h ρ O) {p : Nat} {v : Value} {es : List (Key × MV)} (hv : Is g ρ (.own p) v) (e : O[p]? = some (.dict es)) (hk : ∀ p ∈ es, ∃ k, p.1 = inj k) :
    ∃ d kvs, v = .ref d ∧ ρ[p]? = some (d, d) ∧ (d == sysModules) = false ∧ h.DictOf knd d kvs ∧ Z inj g ρ es kvs ∧ (es.map (·.1)).Nodup := by
  obtain ⟨a, d, rfl, hρ, e1, nd, ob, ds, ep, ho, hx, hd, en⟩ := M.own hv e
  have e1 : a = d := e1
  subst e1
  obtain ⟨kvs, P, H, z⟩ := ents_view kk en hk
  refine ⟨_, kvs, rfl, hρ, sys_ne C M hρ, ⟨ob, ds, ep, ho, hx, hd, fun e he => H e (Array.mem_toList_iff.mpr he), P, ?_⟩, z, nd⟩
  rw [z.keys] at nd; exact nodup_map_inj nd

theorem kin_i {i : Int} {es : List (Key × MV)} (h : allKin (.ki i) es) : ∀ p ∈ es, ∃ k, p.1 = Key.ki k := fun p hp => by
  have := List.all_eq_true.mp h p hp
  unfold Key.kin at this
  split at this <;> first | cases this | skip
  · rename_i e1 e2; exact ⟨_, e1⟩
  · rename_i e1 e2; cases e2
  · rename_i e1 e2; cases e2
theorem kin_s {i : Str} {es : List (Key × MV)} (h : allKin (.ks i) es) : ∀ p ∈ es, ∃ k, p.1 = Key.ks k := fun p hp => by
  have := List.all_eq_true.mp h p hp
  unfold Key.kin at this
  split at this <;> first | cases this | skip
  · rename_i e1 e2; cases e2
  · rename_i e1 e2; exact ⟨_, e1⟩
  · rename_i e1 e2; cases e2
theorem kin_t {i : List Int} {es : List (Key × MV)} (h : allKin (.kt i) es) : ∀ p ∈ es, ∃ k, p.1 = Key.kt k := fun p hp => by
  have := List.all_eq_true.mp h p hp
  unfold Key.kin at this
  split at this <;> first | cases this | skip
  · rename_i e1 e2; cases e2
  · rename_i e1 e2; cases e2
  · rename_i e1 e2; exact ⟨_, e1⟩

/-! ### subscripts -/
theorem tup_in {g h : Heap} {a : Addr} {its : Array Value} (s : Sub g h) (x : g.IsTuple a its) : IsTup h a its := by obtain ⟨o, ho, z⟩ := x; exact ⟨o, s _ _ ho, z⟩
theorem list_in {g h : Heap} {a : Addr} {its : Array Value} (s : Sub g h) (x : g.IsList a its) : h.IsList a its := by obtain ⟨o, ho, z⟩ := x; exact ⟨o, s _ _ ho, z⟩
theorem listAt {xs : List MV} {vs : List Value} {i : Int} {k : MV → Prop} (a : IsAll g ρ xs vs) (hi : itemAt xs i k) : 0 ≤ i ∧ i < 2 ^ 62 ∧ ∃ x v, k x ∧ xs[i.toNat]? = some x ∧ vs[i.toNat]? = some v ∧ Is g ρ x v := by
  obtain ⟨h0, h1, hn⟩ := hi
  obtain ⟨x, hx, hk⟩ := need_some hn
  obtain ⟨v, hv, hi⟩ := a.get hx
  exact ⟨h0, by omega, x, v, hk, hx, hv, hi⟩

theorem tail_at {A : Around} {E : Value → Shared → Prop} {s : Shared} {value slice : Expr} {o i : Value} {T id : String} {Q : Value → Shared → Prop} (hs : ∀ o i, subscripted slice false o i = operate [o, i] (getItem o i)) (hT : s.TypeIs o T) (hl : typeLookup (.type T) "__getitem__" = pure (some (.builtin id)))
    (hg : wpAny (model c.prog c.w) A (getItem o i) Q E s) : wpAny (model c.prog c.w) A (subscriptTail value slice o i) Q E s := tail_any hT hl hg (hs o i)

theorem seqAt {i : Int} {n : Nat} (h0 : 0 ≤ i) (h : i.toNat < n) : seqIndex? i n = some i.toNat := by
  unfold seqIndex?
  have e : ¬ i < 0 := by omega
  have e2 : i < n := by omega
  simp only [e, if_false, h0, e2, decide_true, Bool.and_self, if_true]

/-- reading an item of a value -/
theorem getS_run {A : Around} {E : Value → Shared → Prop} {s : Shared} {x y : MV} {u w : Value} {k : MV → Prop} {Q : Value → Shared → Prop} (C : c.Ok) (M : Mem c g s.heap ρ O) (hx : Is g ρ x u) (hy : Is g ρ y w) (hg : getS x y O k)
    (q : ∀ r v tk, k r → Is g ρ r v → Q v { s with toks := tk }) : wpAny (model c.prog c.w) A (getItem u w) Q E s ∧ ∃ T id, s.TypeIs u T ∧ typeLookup (.type T) "__getitem__" = pure (some (.builtin id)) := by
  unfold getS at hg
  cases x <;> first | exact hg.elim | skip
  · -- a tuple
    cases y <;> first | exact hg.elim | skip
    rename_i i
    cases hx with
    | tup ht ha =>
      cases hy with
      | int _ t =>
        obtain ⟨h0, h1, r, v, hk, _, hv, hi⟩ := listAt ha hg
        have ht' := tup_in M.keep ht
        refine ⟨getItem_tuple (j := i.toNat) ht' (by omega) (by omega) ?_ (by simpa using hv) (q r v s.toks hk hi), "tuple", _, ht'.typeIs, PyProof.Rows.slot_tuple_getitem.lookup⟩
        rw [List.size_toArray]
        exact seqAt h0 (List.getElem?_eq_some_iff.mp hv).1
  · -- a list that stands
    cases y <;> first | exact hg.elim | skip
    rename_i i
    cases hx with
    | flist ht ha =>
      cases hy with
      | int _ t =>
        obtain ⟨h0, h1, r, v, hk, _, hv, hi⟩ := listAt ha hg
        have ht' := list_in M.keep ht
        exact ⟨wpAny_getItem_list ht' h0 (by omega) (by simpa using hv) (q r v s.toks hk hi), "list", _, ht'.typeIs, PySem.slot_list_getitem.lookup⟩
  · -- one's own
    have hg' := need_some hg
    clear hg
    obtain ⟨ob, hob, hg⟩ := hg'
    cases ob <;> first | exact hg.elim | skip
    · cases y <;> first | exact hg.elim | skip
      obtain ⟨ad, d, rfl, hρ, e1, _, vs, hl, ha⟩ := M.own hx hob
      have e1 : ad = d := e1
      subst e1
      cases hy with
      | int _ t =>
        obtain ⟨h0, h1, r, v, hk, _, hv, hi⟩ := listAt ha hg
        exact ⟨wpAny_getItem_list hl.isList h0 (by omega) (by simpa using hv) (q r v s.toks hk hi), "list", _, hl.isList.typeIs, PySem.slot_list_getitem.lookup⟩
    · rename_i es
      cases y <;> first | exact hg.elim | skip
      · rename_i i
        obtain ⟨ak, hg⟩ := hg
        obtain ⟨r, hr, hk⟩ := need_some hg
        obtain ⟨d, kvs, rfl, hρ, hs, hd, z, _⟩ := M.dictOf kkI C hx hob (kin_i ak)
        obtain ⟨v, hv, hi⟩ := (z.get (kkI (prog := c.prog) (w := c.w)) i).1 r hr
        exact ⟨wpAny_getItem_of (kkI.to hy) hd.mapOf hv (q r v _ hk hi), "dict", _, hd.typeIs, PySem.slot_dict_getitem.lookup⟩
      · rename_i i
        obtain ⟨ak, hg⟩ := hg
        obtain ⟨r, hr, hk⟩ := need_some hg
        obtain ⟨d, kvs, rfl, hρ, hs, hd, z, _⟩ := M.dictOf kkS C hx hob (kin_s ak)
        obtain ⟨v, hv, hi⟩ := (z.get (kkS (prog := c.prog) (w := c.w)) i).1 r hr
        exact ⟨wpAny_getItem_of (kkS.to hy) hd.mapOf hv (q r v _ hk hi), "dict", _, hd.typeIs, PySem.slot_dict_getitem.lookup⟩

theorem sim_sub {o i : Expr} {pos : Pos} {a b : ME} (C : c.Ok) (hs : ∀ x y, subscripted i false x y = operate [x, y] (getItem x y)) (h1 : SimE c env names n (eval o env) (evE G c.T a)) (h2 : SimE c env names n (eval i env) (evE G c.T b)) :
    SimE c env names n (eval (.Subscript o i pos) env) (evE G c.T (.sub a b)) := by
  intro A σ k g ρ m s Q E hr hv X ok
  refine Subscript_ (h1 A σ _ g ρ m s _ E hr (by unfold evE at hv; exact hv) X ?_)
  intro x σ1 g1 ρ1 m1 v1 H1 t1 hk1 s1 p1 X1 i1
  refine h2 A σ1 _ g1 ρ1 m1 { s with heap := H1, toks := t1 } _ E hr hk1 X1 ?_
  intro y σ2 g2 ρ2 m2 v2 H2 t2 hk2 s2 p2 X2 i2
  obtain ⟨hw, T, id, hT, hl⟩ := getS_run (A := A) (E := E) (s := { s with heap := H2, toks := t2 }) (k := fun r => k r σ2) (Q := Q) C X2.mem (i1.mono s2 p2) i2 hk2 (fun r v tk hk hi => ok r σ2 g2 ρ2 m2 v H2 tk hk (s1.trans s2) (p1.trans p2) X2 hi)
  exact tail_at hs hT hl hw

end
end Mine
end

section
open PySem PySem.W PyProof.Rows PySem.Calls
set_option Elab.async false
set_option maxRecDepth 100000
set_option linter.unusedVariables false
set_option linter.unusedSectionVars false

namespace Mine

section
variable {c : Cfg} {env : Env} {names : List Str} {n : Nat} {G : Orc} {g h h' : Heap} {ρ : Locs} {O : List MO} {m : Str → Option Value} {σ : S}

theorem St.more (X : St c env names g h ρ m σ) (hh : Sub h h') : St c env names g h' ρ m σ :=
  ⟨⟨X.mem.base, X.mem.keep.trans hh, X.mem.len, X.mem.cell, X.mem.fresh, X.mem.nd, fun k o p e1 e2 => (X.mem.objs k o p e1 e2).mono (Sub.refl _) (List.prefix_refl _) fun _ e => hh _ _ e⟩, X.ns.keeps hh, X.gL, X.neL, X.locs, X.size⟩

theorem sub_push (h : Heap) (o : Obj) : Sub h (h.push o) := fun _ _ e => Heap.get?_push_of_some _ e
theorem none_size (h : Heap) : h.get? h.objs.size = none := by
  cases e : h.get? h.objs.size with
  | none => rfl
  | some o => exact absurd (Heap.lt_size e) (Nat.lt_irrefl _)

/-- a thing that stands is laid down -/
theorem St.lay (X : St c env names g h ρ m σ) (o : Obj) (hf : o.isFreed = false) : ∃ g', Sub g g' ∧ St c env names g' (h.push o) ρ m σ ∧ g'.get? h.objs.size = some o := by
  obtain ⟨g', s, X', ins⟩ := X.grow (sub_push h o)
  exact ⟨g', s, X', ins _ _ (Heap.get?_push_size _ hf) (none_size h)⟩

theorem St.lt_above (F : Frm c env names) (X : St c env names g h ρ m σ) : c.g₀.objs.size ≤ h.objs.size := Nat.le_of_lt (Nat.lt_of_le_of_lt F.above X.ns.lt)

/-- an object of one's own is laid down -/
theorem St.layOwn (F : Frm c env names) (X : St c env names g h ρ m σ) {ob : Obj} {o : MO} (hf : ob.isFreed = false) (ho : ObjIs c.prog c.w c.attrs c.T.fld g (ρ ++ [(h.objs.size, h.objs.size)]) o (h.objs.size, h.objs.size) (h.push ob)) :
    St c env names g (h.push ob) (ρ ++ [(h.objs.size, h.objs.size)]) m ⟨σ.loc, σ.obs ++ [o]⟩ := by
  have X' := X.more (sub_push h ob)
  have hn : ∀ b o, g.get? b = some o → b ≠ h.objs.size := fun b o e => Nat.ne_of_lt (Heap.lt_size (X.mem.keep _ _ e))
  refine X'.new (p := (h.objs.size, h.objs.size)) ?_ (X.lt_above F) (fun hm => ?_) (Ne.symm (Nat.ne_of_lt X.ns.lt)) ho
  · cases e : g.get? h.objs.size with
    | none => rfl
    | some o => exact absurd rfl (hn _ _ e)
  · obtain ⟨p, hp, e⟩ := List.mem_map.mp hm
    obtain ⟨ob', hob⟩ := X.mem.there hp
    exact absurd (Heap.lt_size hob) (by rw [e]; exact Nat.lt_irrefl _)

theorem last_loc {ρ : Locs} {p : Addr × Addr} : (ρ ++ [p])[ρ.length]? = some p := by simp

/-! ### several expressions -/
theorem sims_nil {pos : Pos} : SimEs c env names n (spliced (backTo pos (starEach [] env))) (evEs G c.T .nil) := by
  intro A σ k g ρ m s Q E hr hv X ok
  refine wpAny_items_nil ?_
  exact ok [] σ g ρ m [] s.heap s.toks hv (Sub.refl _) (List.prefix_refl _) X .nil

theorem sims_cons {pos : Pos} {e : Expr} {rest : List Expr} {a : ME} {as : MEs} (he : starEach (e :: rest) env = (false, eval e env) :: starEach rest env) (h1 : SimE c env names n (eval e env) (evE G c.T a)) (h2 : SimEs c env names n (spliced (backTo pos (starEach rest env))) (evEs G c.T as)) :
    SimEs c env names n (spliced (backTo pos (starEach (e :: rest) env))) (evEs G c.T (.cons a as)) := by
  intro A σ k g ρ m s Q E hr hv X ok
  refine wpAny_items_cons (h1 A σ _ g ρ m s _ E hr (by unfold evEs at hv; exact hv) X ?_) he
  intro x σ1 g1 ρ1 m1 v1 H1 t1 hk1 s1 p1 X1 i1
  refine h2 A σ1 _ g1 ρ1 m1 { s with heap := H1, toks := t1 } _ E hr hk1 X1 ?_
  intro xs σ2 g2 ρ2 m2 vs H2 t2 hk2 s2 p2 X2 i2
  exact ok (x :: xs) σ2 g2 ρ2 m2 (v1 :: vs) H2 t2 hk2 (s1.trans s2) (p1.trans p2) X2 (.cons (i1.mono s2 p2) i2)

theorem sizeLine_big {n : Nat} (h : n < 1000000) : n ≤ sizeLine := by rw [sizeLine_eq]; omega

theorem sim_tup {elts : List Expr} {kk : Nat} {pos : Pos} {as : MEs} (h1 : SimEs c env names n (spliced (backTo pos (starEach elts env))) (evEs G c.T as)) : SimE c env names n (eval (.Tuple elts kk pos) env) (evE G c.T (.tup as)) := by
  intro A σ k g ρ m s Q E hr hv X ok
  refine wpAny_Tuple (h1 A σ _ g ρ m s _ E hr (by unfold evE at hv; exact hv) X ?_)
  intro xs σ1 g1 ρ1 m1 vs H1 t1 hk1 s1 p1 X1 i1
  obtain ⟨hl, hk⟩ := hk1
  refine ⟨sizeLine_big (by rw [← i1.length]; omega), ?_⟩
  obtain ⟨g2, s2, X2, hg⟩ := X1.lay { cls := .type "tuple", data := .seq vs.toArray } rfl
  exact ok _ σ1 g2 ρ1 m1 _ _ t1 hk (s1.trans s2) p1 X2 (.tup ⟨_, hg, rfl, _, rfl⟩ (i1.mono s2 (List.prefix_refl _)))

theorem sim_flist {elts : List Expr} {pos : Pos} {as : MEs} (h1 : SimEs c env names n (spliced (backTo pos (starEach elts env))) (evEs G c.T as)) : SimE c env names n (eval (.List elts pos) env) (evE G c.T (.flist as)) := by
  intro A σ k g ρ m s Q E hr hv X ok
  refine wpAny_List (h1 A σ _ g ρ m s _ E hr (by unfold evE at hv; exact hv) X ?_)
  intro xs σ1 g1 ρ1 m1 vs H1 t1 hk1 s1 p1 X1 i1
  obtain ⟨hl, hk⟩ := hk1
  refine ⟨sizeLine_big (by rw [← i1.length]; omega), ?_⟩
  obtain ⟨g2, s2, X2, hg⟩ := X1.lay { cls := .type "list", data := .seq vs.toArray } rfl
  exact ok _ σ1 g2 ρ1 m1 _ _ t1 hk (s1.trans s2) p1 X2 (.flist ⟨_, hg, rfl, _, rfl⟩ (i1.mono s2 (List.prefix_refl _)))

theorem sim_list {elts : List Expr} {pos : Pos} {as : MEs} (F : Frm c env names) (h1 : SimEs c env names n (spliced (backTo pos (starEach elts env))) (evEs G c.T as)) : SimE c env names n (eval (.List elts pos) env) (evE G c.T (.list as)) := by
  intro A σ k g ρ m s Q E hr hv X ok
  refine wpAny_List (h1 A σ _ g ρ m s _ E hr (by unfold evE at hv; exact hv) X ?_)
  intro xs σ1 g1 ρ1 m1 vs H1 t1 hk1 s1 p1 X1 i1
  obtain ⟨hl, hk⟩ := hk1
  refine ⟨sizeLine_big (by rw [← i1.length]; omega), ?_⟩
  have X2 := X1.layOwn F (ob := { cls := .type "list", data := .seq vs.toArray }) (o := .list xs) rfl ⟨rfl, by omega, vs, ⟨_, Heap.get?_push_size _ rfl⟩, i1.mono (Sub.refl _) (List.prefix_append _ _)⟩
  refine ok _ _ g1 _ m1 _ _ t1 hk s1 (p1.trans (List.prefix_append _ _)) X2 (.own (c := H1.objs.size) ?_)
  rw [X1.mem.len]; exact last_loc

theorem sim_dict0 {pos : Pos} (F : Frm c env names) (he : eval (.Dict [] [] pos) env = (do standAt pos; newDict)) : SimE c env names n (eval (.Dict [] [] pos) env) (evE G c.T .dict0) := by
  intro A σ k g ρ m s Q E hr hv X ok
  rw [he]
  refine wpAny_bind (wpAny_standAt ?_)
  unfold newDict
  refine wpAny_newObj_type ?_ (by size_fits)
  have X2 := X.layOwn F (ob := { cls := .type "dict", data := .dict #[] }) (o := .dict []) rfl ⟨rfl, .nil, _, #[], 0, Heap.get?_push_size _ rfl, ⟨rfl, rfl, rfl⟩, rfl, .nil⟩
  refine ok _ _ g _ m _ _ s.toks (by unfold evE at hv; exact hv) (Sub.refl _) (List.prefix_append _ _) X2 (.own (c := s.heap.objs.size) ?_)
  rw [X.mem.len]; exact last_loc

/-! ### truth, not, and, a conditional -/
theorem truth_run {A : Around} {E : Value → Shared → Prop} {s : Shared} {x : MV} {u : Value} {k : Bool → Prop} {Q : Bool → Shared → Prop} (M : Mem c g s.heap ρ O) (hx : Is g ρ x u) (ht : truth x O k) (q : ∀ b tk, k b → Q b { s with toks := tk }) :
    wpAny (model c.prog c.w) A (truthy u) Q E s := by
  unfold truth at ht
  cases x <;> first | exact ht.elim | skip
  · cases hx; exact wpAny_pure (q false s.toks ht)
  · cases hx; exact wpAny_truthy_bool (q _ s.toks ht)
  · cases hx; exact PySem.P.truthy_int (q _ s.toks ht)
  · have ht' := need_some ht
    clear ht
    obtain ⟨ob, hob, ht⟩ := ht'
    cases ob <;> first | exact ht.elim | skip
    rename_i xs
    obtain ⟨ad, d, rfl, hρ, e1, hz, vs, hl, ha⟩ := M.own hx hob
    have e1 : ad = d := e1
    subst e1
    refine wpAny_truthy_list hl.isList (by rw [List.size_toArray, ← ha.length]; omega) ?_
    have e : (!vs.toArray.isEmpty) = !xs.isEmpty := by
      cases ha <;> rfl
    rw [e]; exact q _ _ ht

theorem sim_not {x : Expr} {pos : Pos} {a : ME} (h1 : SimE c env names n (eval x env) (evE G c.T a)) : SimE c env names n (eval (.UnaryOp .Not x pos) env) (evE G c.T (.not a)) := by
  intro A σ k g ρ m s Q E hr hv X ok
  refine wpAny_UnaryOp (h1 A σ _ g ρ m s _ E hr (by unfold evE at hv; exact hv) X ?_)
  intro x σ1 g1 ρ1 m1 v1 H1 t1 hk1 s1 p1 X1 i1
  exact not_value (truth_run (s := { s with heap := H1, toks := t1 }) X1.mem i1 hk1 fun b tk hb => ok _ σ1 g1 ρ1 m1 _ H1 tk hb s1 p1 X1 (.bool _))

theorem brch_true {p q : Prop} : brch true p q = p := rfl
theorem brch_false {p q : Prop} : brch false p q = q := rfl

theorem sim_and {x y : Expr} {pos : Pos} {a b : ME} (h1 : SimE c env names n (eval x env) (evE G c.T a)) (h2 : SimE c env names n (eval y env) (evE G c.T b)) : SimE c env names n (eval (.BoolOp .And [x, y] pos) env) (evE G c.T (.and a b)) := by
  intro A σ k g ρ m s Q E hr hv X ok
  refine wpAny_And2 (h1 A σ _ g ρ m s _ E hr (by unfold evE at hv; exact hv) X ?_)
  intro x σ1 g1 ρ1 m1 v1 H1 t1 hk1 s1 p1 X1 i1
  refine truth_run (s := { s with heap := H1, toks := t1 }) X1.mem i1 hk1 fun t tk ht => ?_
  cases t with
  | false => exact ok _ σ1 g1 ρ1 m1 _ H1 tk ht s1 p1 X1 i1
  | true =>
    refine h2 A σ1 k g1 ρ1 m1 { s with heap := H1, toks := tk } Q E hr ht X1 ?_
    intro y σ2 g2 ρ2 m2 v2 H2 t2 hk2 s2 p2 X2 i2
    exact ok _ σ2 g2 ρ2 m2 _ H2 t2 hk2 (s1.trans s2) (p1.trans p2) X2 i2

theorem simT_val {x : Expr} {a : ME} (he : isTrue x env (eval x env) = (do let v ← eval x env; standAt x.pos; holding [v] (truthy v))) (h1 : SimE c env names n (eval x env) (evE G c.T a)) : SimT c env names n (isTrue x env (eval x env)) (evT G c.T (.val a)) := by
  intro A σ k g ρ m s Q E hr hv X ok
  refine wpAny_isTrue_value (h1 A σ _ g ρ m s _ E hr (by unfold evT at hv; exact hv) X ?_) he
  intro x σ1 g1 ρ1 m1 v1 H1 t1 hk1 s1 p1 X1 i1
  exact truth_run (s := { s with heap := H1, toks := t1 }) X1.mem i1 hk1 fun t tk ht => ok _ σ1 g1 ρ1 m1 _ H1 tk ht s1 p1 X1 rfl

theorem simT_not {x : Expr} {pos : Pos} {a : MT} (h1 : SimT c env names n (isTrue x env (eval x env)) (evT G c.T a)) : SimT c env names n (isTrue (.UnaryOp .Not x pos) env (eval (.UnaryOp .Not x pos) env)) (evT G c.T (.not a)) := by
  intro A σ k g ρ m s Q E hr hv X ok
  refine wpAny_isTrue_Not (h1 A σ _ g ρ m s _ E hr (by unfold evT at hv; exact hv) X ?_)
  intro b σ1 g1 ρ1 m1 v1 H1 t1 hk1 s1 p1 X1 i1
  subst i1
  exact ok _ σ1 g1 ρ1 m1 _ H1 t1 hk1 s1 p1 X1 rfl

theorem simO_nil : SimT c env names n (allTrue .Or [] env) (evO G c.T .nil) := by
  intro A σ k g ρ m s Q E hr hv X ok
  exact wpAny_allTrue_Or_nil (ok _ σ g ρ m _ s.heap s.toks hv (Sub.refl _) (List.prefix_refl _) X rfl)
theorem simO_cons {x : Expr} {rest : List Expr} {a : MT} {as : MTs} (h1 : SimT c env names n (isTrue x env (eval x env)) (evT G c.T a)) (h2 : SimT c env names n (allTrue .Or rest env) (evO G c.T as)) : SimT c env names n (allTrue .Or (x :: rest) env) (evO G c.T (.cons a as)) := by
  intro A σ k g ρ m s Q E hr hv X ok
  refine wpAny_allTrue_Or_cons (h1 A σ _ g ρ m s _ E hr (by unfold evO at hv; exact hv) X ?_)
  intro b σ1 g1 ρ1 m1 v1 H1 t1 hk1 s1 p1 X1 i1
  subst i1
  cases b with
  | true => exact ok _ σ1 g1 ρ1 m1 _ H1 t1 hk1 s1 p1 X1 rfl
  | false =>
    refine h2 A σ1 k g1 ρ1 m1 { s with heap := H1, toks := t1 } Q E hr hk1 X1 ?_
    intro y σ2 g2 ρ2 m2 v2 H2 t2 hk2 s2 p2 X2 i2
    exact ok _ σ2 g2 ρ2 m2 _ H2 t2 hk2 (s1.trans s2) (p1.trans p2) X2 i2
theorem simT_or {xs : List Expr} {pos : Pos} {as : MTs} (h1 : SimT c env names n (allTrue .Or xs env) (evO G c.T as)) : SimT c env names n (isTrue (.BoolOp .Or xs pos) env (eval (.BoolOp .Or xs pos) env)) (evT G c.T (.or as)) := by
  intro A σ k g ρ m s Q E hr hv X ok
  exact wpAny_isTrue_BoolOp (h1 A σ k g ρ m s Q E hr (by unfold evT at hv; exact hv) X ok)

theorem simA_nil : SimT c env names n (allTrue .And [] env) (evA G c.T .nil) := by
  intro A σ k g ρ m s Q E hr hv X ok
  exact wpAny_allTrue_And_nil (ok _ σ g ρ m _ s.heap s.toks hv (Sub.refl _) (List.prefix_refl _) X rfl)
theorem simA_cons {x : Expr} {rest : List Expr} {a : MT} {as : MTs} (h1 : SimT c env names n (isTrue x env (eval x env)) (evT G c.T a)) (h2 : SimT c env names n (allTrue .And rest env) (evA G c.T as)) : SimT c env names n (allTrue .And (x :: rest) env) (evA G c.T (.cons a as)) := by
  intro A σ k g ρ m s Q E hr hv X ok
  refine wpAny_allTrue_And_cons (h1 A σ _ g ρ m s _ E hr (by unfold evA at hv; exact hv) X ?_)
  intro b σ1 g1 ρ1 m1 v1 H1 t1 hk1 s1 p1 X1 i1
  subst i1
  cases b with
  | false => exact ok _ σ1 g1 ρ1 m1 _ H1 t1 hk1 s1 p1 X1 rfl
  | true =>
    refine h2 A σ1 k g1 ρ1 m1 { s with heap := H1, toks := t1 } Q E hr hk1 X1 ?_
    intro y σ2 g2 ρ2 m2 v2 H2 t2 hk2 s2 p2 X2 i2
    exact ok _ σ2 g2 ρ2 m2 _ H2 t2 hk2 (s1.trans s2) (p1.trans p2) X2 i2
theorem simT_and {xs : List Expr} {pos : Pos} {as : MTs} (h1 : SimT c env names n (allTrue .And xs env) (evA G c.T as)) : SimT c env names n (isTrue (.BoolOp .And xs pos) env (eval (.BoolOp .And xs pos) env)) (evT G c.T (.and as)) := by
  intro A σ k g ρ m s Q E hr hv X ok
  exact wpAny_isTrue_BoolOp (h1 A σ k g ρ m s Q E hr (by unfold evT at hv; exact hv) X ok)

theorem sim_ife {t x y : Expr} {pos : Pos} {b : MT} {a1 a2 : ME} (h0 : SimT c env names n (isTrue t env (eval t env)) (evT G c.T b)) (h1 : SimE c env names n (eval x env) (evE G c.T a1)) (h2 : SimE c env names n (eval y env) (evE G c.T a2)) :
    SimE c env names n (eval (.IfExp t x y pos) env) (evE G c.T (.ife b a1 a2)) := by
  intro A σ k g ρ m s Q E hr hv X ok
  refine wpAny_IfExp (h0 A σ _ g ρ m s _ E hr (by unfold evE at hv; exact hv) X ?_)
  intro b σ1 g1 ρ1 m1 v1 H1 t1 hk1 s1 p1 X1 i1
  subst i1
  cases b with
  | true =>
    refine h1 A σ1 k g1 ρ1 m1 { s with heap := H1, toks := t1 } Q E hr hk1 X1 ?_
    intro y σ2 g2 ρ2 m2 v2 H2 t2 hk2 s2 p2 X2 i2
    exact ok _ σ2 g2 ρ2 m2 _ H2 t2 hk2 (s1.trans s2) (p1.trans p2) X2 i2
  | false =>
    refine h2 A σ1 k g1 ρ1 m1 { s with heap := H1, toks := t1 } Q E hr hk1 X1 ?_
    intro y σ2 g2 ρ2 m2 v2 H2 t2 hk2 s2 p2 X2 i2
    exact ok _ σ2 g2 ρ2 m2 _ H2 t2 hk2 (s1.trans s2) (p1.trans p2) X2 i2

/-! ### comparisons -/
noncomputable def copOf : COp → CmpOp
  | .eq => .Eq
  | .ne => .NotEq
  | .lt => .Lt
  | .le => .LtE
  | .gt => .Gt
  | .ge => .GtE
  | .isin => .In
  | .notin => .NotIn
  | .isnone => .Is

theorem cps_eq (a b : Str) : (a.cps.toList == b.cps.toList) = decide (a = b) := by
  by_cases hne : a = b
  · subst hne; simp
  · rw [decide_eq_false hne]
    refine beq_eq_false_iff_ne.mpr fun hl => hne ?_
    cases a; cases b
    simp only [Str.mk.injEq]
    exact Array.toList_inj.mp hl

theorem ints_of {xs : List MV} {is : List Int} {vs : List Value} (e : ints? xs = some is) (h : IsAll g ρ xs vs) : ItemsAre (intKind c.prog c.w) is vs := by
  induction xs generalizing is vs with
  | nil => cases h; cases e; exact .nil
  | cons x xs ih =>
    cases h with
    | cons h r =>
    cases x with
    | int i =>
      have e' : (ints? xs).map (i :: ·) = some is := e
      obtain ⟨js, e1, e2⟩ := Option.map_eq_some_iff.mp e'
      subst e2
      exact .cons (by cases h; simp [PySem.intKind, Value.isInt]) (ih e1 r)
    | _ => cases e

theorem strs_of {xs : List MV} {ys : List Str} {vs : List Value} (e : strs? xs = some ys) (h : IsAll g ρ xs vs) : StrsAre vs ys := by
  induction xs generalizing ys vs with
  | nil => cases h; cases e; exact .nil
  | cons x xs ih =>
    cases h with
    | cons h r =>
    cases x with
    | str i =>
      have e' : (strs? xs).map (i :: ·) = some ys := e
      obtain ⟨js, e1, e2⟩ := Option.map_eq_some_iff.mp e'
      subst e2
      cases h
      exact .cons _ _ (ih e1 r)
    | _ => cases e

theorem eq_tuple {A : Around} {E : Value → Shared → Prop} {s : Shared} {x y : List Int} {a b : Addr} {Q : Value → Shared → Prop} (hu : A.units < cLine) (hx : IsTupleKey (intKind c.prog c.w) s.heap x a) (hy : IsTupleKey (intKind c.prog c.w) s.heap y b) (h : Q (.bool (decide (x = y))) s) :
    wpAny (model c.prog c.w) A (compareOp .Eq (.ref a) (.ref b)) Q E s :=
  cmp_ofEq (wpAny_richCompare_same_room (op := .Eq) hx.typeIs hy.typeIs F.slot_tuple_eq
    (wpAny_call_entry F.slot_tuple_eq hx.typeIs F.entry_tuple_eq (tuple_eq_tree hx hy ⟨_, rfl, (fun e => nomatch e), h⟩) (F.args_tuple_eq_2 _ _)) hu)

theorem eq_run {A : Around} {E : Value → Shared → Prop} {s : Shared} {x y : MV} {u w : Value} {k : Bool → Prop} {Q : Value → Shared → Prop} (hr : Rm A n) (M : Mem c g s.heap ρ O) (hx : Is g ρ x u) (hy : Is g ρ y w) (he : eqV x y k)
    (q : ∀ b tk, k b → Q (.bool b) { s with toks := tk }) : wpAny (model c.prog c.w) A (compareOp .Eq u w) Q E s := by
  unfold eqV at he
  cases x <;> first | exact he.elim | skip
  · cases y <;> first | exact he.elim | skip
    cases hx; cases hy
    exact PySem.P.eq_int (q _ s.toks he)
  · cases y <;> first | exact he.elim | skip
    cases hx; cases hy
    exact PySem.P.eq_str (by rw [cps_eq]; exact q _ s.toks he)
  · cases y <;> first | exact he.elim | skip
    have he1 := need_some he
    clear he
    obtain ⟨is, h1, he⟩ := he1
    have he1 := need_some he
    clear he
    obtain ⟨js, h2, he⟩ := he1
    cases hx with
    | tup ht ha =>
      cases hy with
      | tup ht' ha' =>
        obtain ⟨o, ho, hc, nn, hd⟩ := ht
        obtain ⟨o', ho', hc', nn', hd'⟩ := ht'
        exact eq_tuple (by have := hr.2.2; omega) ⟨o, _, nn, M.keep _ _ ho, hc, hd, ints_of h1 ha⟩ ⟨o', _, nn', M.keep _ _ ho', hc', hd', ints_of h2 ha'⟩ (q _ s.toks he)

theorem ne_run {A : Around} {E : Value → Shared → Prop} {s : Shared} {x y : MV} {u w : Value} {k : Bool → Prop} {Q : Value → Shared → Prop} (hr : Rm A n) (M : Mem c g s.heap ρ O) (hx : Is g ρ x u) (hy : Is g ρ y w) (he : neV x y k)
    (q : ∀ b tk, k b → Q (.bool b) { s with toks := tk }) : wpAny (model c.prog c.w) A (compareOp .NotEq u w) Q E s := by
  unfold neV at he
  cases x <;> first | exact he.elim | skip
  · cases y <;> first | exact he.elim | skip
    cases hx; cases hy
    exact PySem.P.ne_int (q _ s.toks he)
  · cases y <;> first | exact he.elim | skip
    cases hx; cases hy
    refine PySem.P.ne_str ?_
    have e : ∀ a b : Str, (a.cps.toList != b.cps.toList) = !decide (a = b) := fun a b => by rw [← cps_eq]; rfl
    rw [e]; exact q _ s.toks he

theorem in_run {A : Around} {E : Value → Shared → Prop} {s : Shared} {x y : MV} {u w : Value} {k : Bool → Prop} {Q : Value → Shared → Prop} (C : c.Ok) (M : Mem c g s.heap ρ O) (hx : Is g ρ x u) (hy : Is g ρ y w) (he : inV x y O k)
    (q : ∀ b tk, k b → Q (.bool b) { s with toks := tk }) : wpAny (model c.prog c.w) A (compareOp .In u w) Q E s := by
  unfold inV at he
  cases y <;> first | exact he.elim | skip
  · cases x <;> first | exact he.elim | skip
    have he1 := need_some he
    clear he
    obtain ⟨ys, h1, he⟩ := he1
    cases hx
    cases hy with
    | tup ht ha => exact in_tuple_strs (tup_in M.keep ht) (by simpa using strs_of h1 ha) (q _ s.toks he)
  · have he1 := need_some he
    clear he
    obtain ⟨ob, hob, he⟩ := he1
    cases ob <;> first | exact he.elim | skip
    cases x <;> first | exact he.elim | skip
    · obtain ⟨ak, he⟩ := he
      obtain ⟨d, kvs, rfl, hρ, hs, hd, z, _⟩ := M.dictOf kkI C hy hob (kin_i ak)
      refine wpAny_in_of (kkI.to hx) hs hd.mapOf ?_
      rw [← z.isSome (kkI (prog := c.prog) (w := c.w))]
      exact q _ _ he
    · obtain ⟨ak, he⟩ := he
      obtain ⟨d, kvs, rfl, hρ, hs, hd, z, _⟩ := M.dictOf kkS C hy hob (kin_s ak)
      refine wpAny_in_of (kkS.to hx) hs hd.mapOf ?_
      rw [← z.isSome (kkS (prog := c.prog) (w := c.w))]
      exact q _ _ he

theorem notin_run {A : Around} {E : Value → Shared → Prop} {s : Shared} {x y : MV} {u w : Value} {k : Bool → Prop} {Q : Value → Shared → Prop} (C : c.Ok) (M : Mem c g s.heap ρ O) (hx : Is g ρ x u) (hy : Is g ρ y w) (he : inV x y O fun r => k (!r))
    (q : ∀ b tk, k b → Q (.bool b) { s with toks := tk }) : wpAny (model c.prog c.w) A (compareOp .NotIn u w) Q E s := by
  unfold inV at he
  cases y <;> first | exact he.elim | skip
  · cases x <;> first | exact he.elim | skip
    have he1 := need_some he
    clear he
    obtain ⟨ys, h1, he⟩ := he1
    cases hx
    cases hy with
    | tup ht ha => exact notin_tuple_strs (tup_in M.keep ht) (by simpa using strs_of h1 ha) (q _ s.toks he)
  · have he1 := need_some he
    clear he
    obtain ⟨ob, hob, he⟩ := he1
    cases ob <;> first | exact he.elim | skip
    cases x <;> first | exact he.elim | skip
    · obtain ⟨ak, he⟩ := he
      obtain ⟨d, kvs, rfl, hρ, hs, hd, z, _⟩ := M.dictOf kkI C hy hob (kin_i ak)
      refine wpAny_notIn_of (kkI.to hx) hs hd.mapOf ?_
      rw [← z.isSome (kkI (prog := c.prog) (w := c.w))]
      exact q _ _ he
    · obtain ⟨ak, he⟩ := he
      obtain ⟨d, kvs, rfl, hρ, hs, hd, z, _⟩ := M.dictOf kkS C hy hob (kin_s ak)
      refine wpAny_notIn_of (kkS.to hx) hs hd.mapOf ?_
      rw [← z.isSome (kkS (prog := c.prog) (w := c.w))]
      exact q _ _ he

theorem cmp_run {op : COp} {A : Around} {E : Value → Shared → Prop} {s : Shared} {x y : MV} {u w : Value} {k : Bool → Prop} {Q : Value → Shared → Prop} (C : c.Ok) (hr : Rm A n) (M : Mem c g s.heap ρ O) (hx : Is g ρ x u) (hy : Is g ρ y w) (he : cmpV op x y O k)
    (q : ∀ b tk, k b → Q (.bool b) { s with toks := tk }) : wpAny (model c.prog c.w) A (compareOp (copOf op) u w) Q E s := by
  cases op
  · exact eq_run hr M hx hy he q
  · exact ne_run hr M hx hy he q
  · cases x <;> first | exact he.elim | skip
    cases y <;> first | exact he.elim | skip
    cases hx; cases hy
    exact PySem.P.lt_int (q _ s.toks he)
  · cases x <;> first | exact he.elim | skip
    cases y <;> first | exact he.elim | skip
    cases hx; cases hy
    exact PySem.P.le_int (q _ s.toks he)
  · cases x <;> first | exact he.elim | skip
    cases y <;> first | exact he.elim | skip
    cases hx; cases hy
    exact PySem.P.gt_int (q _ s.toks he)
  · cases x <;> first | exact he.elim | skip
    cases y <;> first | exact he.elim | skip
    cases hx; cases hy
    exact PySem.P.ge_int (q _ s.toks he)
  · exact in_run C M hx hy he q
  · exact notin_run C M hx hy he q
  · cases y <;> first | (cases x <;> exact he.elim) | skip
    cases hy
    cases x <;> first | exact he.elim | skip
    · cases hx; exact is_none (q _ s.toks he)
    · cases hx; exact is_none (q _ s.toks he)

theorem sim_cmp {op : COp} {l r : Expr} {pos : Pos} {a b : ME} (C : c.Ok) (hm : behindInMarks (copOf op) r = false) (h1 : SimE c env names n (eval l env) (evE G c.T a)) (h2 : SimE c env names n (eval r env) (evE G c.T b)) :
    SimE c env names n (eval (.Compare l [copOf op] [r] pos) env) (evE G c.T (.cmp op a b)) := by
  intro A σ k g ρ m s Q E hr hv X ok
  refine wpAny_Compare1 (h1 A σ _ g ρ m s _ E hr (by unfold evE at hv; exact hv) X ?_) hm
  intro x σ1 g1 ρ1 m1 v1 H1 t1 hk1 s1 p1 X1 i1
  refine h2 A σ1 _ g1 ρ1 m1 { s with heap := H1, toks := t1 } _ E hr hk1 X1 ?_
  intro y σ2 g2 ρ2 m2 v2 H2 t2 hk2 s2 p2 X2 i2
  exact cmp_run (s := { s with heap := H2, toks := t2 }) C hr X2.mem (i1.mono s2 p2) i2 hk2 fun b tk hb => ok _ σ2 g2 ρ2 m2 _ H2 tk hb (s1.trans s2) (p1.trans p2) X2 (.bool b)

theorem simT_cmp {op : COp} {l r : Expr} {pos : Pos} {a b : ME} (C : c.Ok) (hm : behindInMarks (copOf op) r = false) (h1 : SimE c env names n (eval l env) (evE G c.T a)) (h2 : SimE c env names n (eval r env) (evE G c.T b)) :
    SimT c env names n (isTrue (.Compare l [copOf op] [r] pos) env (eval (.Compare l [copOf op] [r] pos) env)) (evT G c.T (.val (.cmp op a b))) := by
  intro A σ k g ρ m s Q E hr hv X ok
  refine wpAny_isTrue_Compare1 (h1 A σ _ g ρ m s _ E hr (by unfold evT evE at hv; exact hv) X ?_) hm
  intro x σ1 g1 ρ1 m1 v1 H1 t1 hk1 s1 p1 X1 i1
  refine h2 A σ1 _ g1 ρ1 m1 { s with heap := H1, toks := t1 } _ E hr hk1 X1 ?_
  intro y σ2 g2 ρ2 m2 v2 H2 t2 hk2 s2 p2 X2 i2
  exact cmp_run (s := { s with heap := H2, toks := t2 }) C hr X2.mem (i1.mono s2 p2) i2 hk2 fun b tk hb => wpAny_truthy_bool (ok b σ2 g2 ρ2 m2 _ H2 tk hb (s1.trans s2) (p1.trans p2) X2 rfl)

end
end Mine
end

section
open PySem PySem.W PyProof.Rows PySem.Calls
set_option Elab.async false
set_option maxRecDepth 100000
set_option linter.unusedVariables false
set_option linter.unusedSectionVars false

namespace Mine

section
variable {c : Cfg} {env : Env} {names : List Str} {n : Nat} {G : Orc} {g h h' : Heap} {ρ : Locs} {O : List MO} {m : Str → Option Value} {σ : S}

theorem evalArgs_of {M : Model} {A : Around} {E : Value → Shared → Prop} {s : Shared} {f : Value} {trees : List (Bool × Sem Value)} {Q : Args → Shared → Prop} (hp : trees.any (·.1) = false)
    (h : wpAny M A (spliced trees) (fun vs s' => Q ⟨vs, []⟩ s') E s) : wpAny M A (evalArgs f true trees []) Q E s := by
  cases trees with
  | nil =>
    unfold evalArgs
    show wpAny M A (spliced [] >>= _) Q E s
    refine wpAny_bind (wpAny_mono h (fun vs s' h' => ?_) fun _ _ x => x)
    refine wpAny_bind (wpAny_pure (wpAny_holding ?_))
    exact wpAny_bind (wpAny_pure (wpAny_bind (wpAny_pure (wpAny_pure h'))))
  | cons t r =>
    obtain ⟨b, x⟩ := t
    have hb : b = false := by
      rw [List.any_cons, Bool.or_eq_false_iff] at hp; exact hp.1
    subst hb
    exact evalArgs_plain h

/-! ### built-in functions -/
theorem sim_len {pos : Pos} {x : Str} {p : Pos} {args : List Expr} {as : MEs} (C : c.Ok) (F : Frm c env names) (hx : env.kindOf x = some .globalImplicit) (e : nsIn c.K mainGlobals x = some none) (hb : bootBuiltins x = some (.builtin "len")) (hn : x ≠ "__name__") (hd : (x == ("__debug__" : Str)) = false)
    (hp : (backTo pos (starEach args env)).any (·.1) = false) (h1 : SimEs c env names n (spliced (backTo pos (starEach args env))) (evEs G c.T as)) : SimE c env names n (eval (.Call (.Name x p) args [] pos) env) (evE G c.T (.prim .len as)) := by
  intro A σ k g ρ m s Q E hr hv X ok
  refine Call_ (load_builtin C F hx e hb hn hd X (callWith_builtin hp (evalArgs_of hp (h1 A σ _ g ρ m s _ E hr (by unfold evE at hv; exact hv) X ?_))))
  intro xs σ1 g1 ρ1 m1 vs H1 t1 hk1 s1 p1 X1 i1
  unfold primV at hk1
  dsimp only at hk1
  split at hk1
  · obtain ⟨hz, hk⟩ := hk1
    cases i1 with
    | cons a b =>
      cases b
      cases a with
      | tup ht ha =>
        refine PyProof.Rows.len_tuple (tup_in X1.mem.keep ht) (by rw [List.size_toArray, ← ha.length]; omega) ?_
        rw [List.size_toArray, ← ha.length]
        exact ok _ σ1 g1 ρ1 m1 _ H1 _ hk s1 p1 X1 (.int _ _)
  · obtain ⟨hz, hk⟩ := hk1
    cases i1 with
    | cons a b =>
      cases b
      cases a with
      | flist ht ha =>
        refine PyProof.Rows.len_list (list_in X1.mem.keep ht) (by rw [List.size_toArray, ← ha.length]; omega) ?_
        rw [List.size_toArray, ← ha.length]
        exact ok _ σ1 g1 ρ1 m1 _ H1 _ hk s1 p1 X1 (.int _ _)
  · have hk2 := need_some hk1
    clear hk1
    obtain ⟨ob, hob, hk1⟩ := hk2
    cases ob <;> first | exact hk1.elim | skip
    cases i1 with
    | cons a b =>
      cases b
      obtain ⟨ad, d, rfl, hρ, e1, hz, ws, hl, ha⟩ := X1.mem.own a hob
      have e1 : ad = d := e1
      subst e1
      refine PyProof.Rows.len_list (s := { s with heap := H1, toks := t1 }) hl.isList (by rw [List.size_toArray, ← ha.length]; omega) ?_
      rw [List.size_toArray, ← ha.length]
      exact ok _ σ1 g1 ρ1 m1 _ H1 _ hk1 s1 p1 X1 (.int _ _)
  · exact hk1.elim

theorem sim_abs {pos : Pos} {x : Str} {p : Pos} {args : List Expr} {as : MEs} (C : c.Ok) (F : Frm c env names) (hx : env.kindOf x = some .globalImplicit) (e : nsIn c.K mainGlobals x = some none) (hb : bootBuiltins x = some (.builtin "abs")) (hn : x ≠ "__name__") (hd : (x == ("__debug__" : Str)) = false)
    (hp : (backTo pos (starEach args env)).any (·.1) = false) (h1 : SimEs c env names n (spliced (backTo pos (starEach args env))) (evEs G c.T as)) : SimE c env names n (eval (.Call (.Name x p) args [] pos) env) (evE G c.T (.prim .abs as)) := by
  intro A σ k g ρ m s Q E hr hv X ok
  refine Call_ (load_builtin C F hx e hb hn hd X (callWith_builtin hp (evalArgs_of hp (h1 A σ _ g ρ m s _ E hr (by unfold evE at hv; exact hv) X ?_))))
  intro xs σ1 g1 ρ1 m1 vs H1 t1 hk1 s1 p1 X1 i1
  unfold primV at hk1
  dsimp only at hk1
  split at hk1
  · cases i1 with
    | cons a b =>
      cases b
      cases a
      exact PyProof.Rows.call_abs_int (s := { s with heap := H1, toks := t1 }) fun u tk => ok _ σ1 g1 ρ1 m1 _ H1 _ hk1 s1 p1 X1 (.int _ _)
  · exact hk1.elim

theorem sim_range {pos : Pos} {x : Str} {p : Pos} {args : List Expr} {as : MEs} (C : c.Ok) (F : Frm c env names) (hx : env.kindOf x = some .globalImplicit) (e : nsIn c.K mainGlobals x = some none) (hb : bootBuiltins x = some (.type "range")) (hn : x ≠ "__name__") (hd : (x == ("__debug__" : Str)) = false)
    (hp : (backTo pos (starEach args env)).any (·.1) = false) (h1 : SimEs c env names n (spliced (backTo pos (starEach args env))) (evEs G c.T as)) : SimE c env names n (eval (.Call (.Name x p) args [] pos) env) (evE G c.T (.prim .range as)) := by
  intro A σ k g ρ m s Q E hr hv X ok
  refine Call_ (load_builtin C F hx e hb hn hd X (PySem.callWith_type hp (evalArgs_of hp (h1 A σ _ g ρ m s _ E hr (by unfold evE at hv; exact hv) X ?_))))
  intro xs σ1 g1 ρ1 m1 vs H1 t1 hk1 s1 p1 X1 i1
  unfold primV at hk1
  dsimp only at hk1
  split at hk1
  · rename_i i
    cases i1 with
    | cons a b =>
      cases b
      cases a with
      | int _ t =>
        obtain ⟨g2, s2, X2, hg⟩ := X1.lay { cls := .type "range", data := .fields #[.int 0 t1, .int i t, .int 1 (t1 + 1)] } rfl
        exact PySem.call_range_1 (s := { s with heap := H1, toks := t1 }) (ok _ σ1 g2 ρ1 m1 _ _ _ hk1 (s1.trans s2) p1 X2 (.rng hg))
  · rename_i i j l
    obtain ⟨hc, hc2, hk⟩ := hk1
    cases i1 with
    | cons a b =>
      cases b with
      | cons b d =>
        cases d with
        | cons d e =>
          cases e
          cases a with
          | int _ t =>
            cases b with
            | int _ u =>
              cases d with
              | int _ v =>
                obtain ⟨g2, s2, X2, hg⟩ := X1.lay { cls := .type "range", data := .fields #[.int i t, .int j u, .int l v] } rfl
                exact PySem.call_range_3 (s := { s with heap := H1, toks := t1 }) (by omega) (ok _ σ1 g2 ρ1 m1 _ _ t1 hk (s1.trans s2) p1 X2 (.rng hg)) (.inl (PyProof.noPylong_small (by omega)))
  · exact hk1.elim

theorem keys_all {knd : PySem.KeyKind c.prog c.w Int} (kk : KK knd Key.ki) {es : List (Key × MV)} {kvs : List (Int × Value)} (z : Z Key.ki g ρ es kvs) : ∀ {vs : List Value}, vs.length = kvs.length → (∀ (j : Nat) (v : Value), vs[j]? = some v → ∃ k x, kvs[j]? = some (k, x) ∧ knd.is k v = true) → IsAll g ρ (es.map fun p => p.1.mv) vs := by
  induction z with
  | nil =>
    intro vs hl _
    cases List.eq_nil_of_length_eq_zero hl
    exact .nil
  | cons h z ih =>
    intro vs hl hv
    cases vs with
    | nil => cases hl
    | cons v vs =>
      refine .cons ?_ (ih (Nat.succ.inj hl) fun j u e => ?_)
      · obtain ⟨k', x, e, hi⟩ := hv 0 v rfl
        have e := Option.some.inj e
        cases e
        exact kk.fro hi
      · obtain ⟨k', x, e', hi⟩ := hv (j + 1) u e
        exact ⟨k', x, e', hi⟩

theorem sim_lst {pos : Pos} {x : Str} {p : Pos} {args : List Expr} {as : MEs} (C : c.Ok) (F : Frm c env names) (hx : env.kindOf x = some .globalImplicit) (e : nsIn c.K mainGlobals x = some none) (hb : bootBuiltins x = some (.type "list")) (hn : x ≠ "__name__") (hd : (x == ("__debug__" : Str)) = false)
    (hp : (backTo pos (starEach args env)).any (·.1) = false) (h1 : SimEs c env names n (spliced (backTo pos (starEach args env))) (evEs G c.T as)) : SimE c env names n (eval (.Call (.Name x p) args [] pos) env) (evE G c.T (.prim .lst as)) := by
  intro A σ k g ρ m s Q E hr hv X ok
  refine Call_ (load_builtin C F hx e hb hn hd X (PySem.callWith_type hp (evalArgs_of hp (h1 A σ _ g ρ m s _ E hr (by unfold evE at hv; exact hv) X ?_))))
  intro xs σ1 g1 ρ1 m1 vs H1 t1 hk1 s1 p1 X1 i1
  unfold primV at hk1
  dsimp only at hk1
  split at hk1
  · have hk2 := need_some hk1
    clear hk1
    obtain ⟨ob, hob, hk1⟩ := hk2
    cases ob <;> first | exact hk1.elim | skip
    obtain ⟨ak, hz, hk⟩ := hk1
    cases i1 with
    | cons a b =>
      cases b
      obtain ⟨d, kvs, rfl, hρ, hs, hd, z, _⟩ := X1.mem.dictOf (kkI (prog := c.prog) (w := c.w)) C a hob (kin_i ak)
      obtain ⟨ep, hda⟩ := hd.dictAt
      refine PySem.W.kdl_call (s := { s with heap := H1, toks := t1 }) (kdl_dict (kvs := kvs) (ep := ep) hs) hr.1 hda (sizeLine_big (by rw [← z.len]; exact hz)) fun H2 tk acc c' hk2 hL hI => ?_
      obtain ⟨g2, s2, X2, ins⟩ := X1.grow hk2
      have hg := ins _ _ hL (none_size H1)
      refine ok _ σ1 g2 ρ1 m1 _ H2 tk hk (s1.trans s2) p1 X2 (.flist (vs := acc.toList) ⟨_, hg, rfl, _, rfl⟩ ?_)
      exact (keys_all (kkI (prog := c.prog) (w := c.w)) z (by simpa using hI.1) fun j v e => hI.2 j v (by simpa using e)).mono s2 (List.prefix_refl _)
  · exact hk1.elim

theorem sim_slice {x : Str} {px pos p2 p3 : Pos} {i : Nat} {b kd : Nat} (F : Frm c env names) (e : names[i]? = some x) (hd : (x == ("__debug__" : Str)) = false) :
    SimE c env names n (eval (.Subscript (.Name x px) (.Slice none (some (.Constant (.int b) kd p2)) none p3) pos) env) (evE G c.T (.slice (.loc i) b)) := by
  intro A σ k g ρ m s Q E hr hv X ok
  refine wpAny_Subscript_list_slice (sim_loc (G := G) F e hd A σ _ g ρ m s _ E hr (by unfold evE at hv; exact hv) X ?_)
  intro y σ1 g1 ρ1 m1 v1 H1 t1 hk1 s1 p1 X1 i1
  cases y <;> first | exact hk1.elim | skip
  obtain ⟨hz, hk⟩ := hk1
  cases i1 with
  | flist ht ha =>
    rename_i xs a vs
    rw [evalPart_none, evalPart_some]
    refine wpAny_pure (wpAny_Constant_int ?_)
    have ht' := list_in X1.mem.keep ht
    refine ⟨a, _, none, some (b : Int), rfl, ht', by rw [List.size_toArray, ← ha.length]; exact sizeLine_big hz, .none, .int _ _, ?_⟩
    obtain ⟨g2, s2, X2, ins⟩ := X1.grow ((sub_push H1 { cls := .type "slice", data := .fields #[.none, .int b t1, .none] }).trans (sub_push _ { cls := .type "list", data := .seq (slicePick vs.toArray none (some (b : Int)) none) }))
    have hl : ((H1.push { cls := .type "slice", data := .fields #[.none, .int b t1, .none] }).push { cls := .type "list", data := .seq (slicePick vs.toArray none (some (b : Int)) none) }).get? (H1.objs.size + 1) = some { cls := .type "list", data := .seq (slicePick vs.toArray none (some (b : Int)) none) } := by
      have := Heap.get?_push_size (H1.push { cls := .type "slice", data := .fields #[.none, .int b t1, .none] }) (o := { cls := .type "list", data := .seq (slicePick vs.toArray none (some (b : Int)) none) }) rfl
      rwa [Heap.size_push] at this
    have hg := ins _ _ hl (by
      cases e : H1.get? (H1.objs.size + 1) with
      | none => rfl
      | some o => exact absurd (Heap.lt_size e) (Nat.not_lt.mpr (Nat.le_succ _)))
    refine ok _ σ1 g2 ρ1 m1 _ _ (t1 + 1) hk (s1.trans s2) p1 X2 (.flist (vs := vs.take b) ⟨_, hg, rfl, 0, ?_⟩ ((ha.take b).mono s2 (List.prefix_refl _)))
    dsimp only
    rw [slicePick_upto']

end
end Mine
end

section
open PySem PySem.W PyProof.Rows PySem.Calls
set_option Elab.async false
set_option maxRecDepth 100000
set_option linter.unusedVariables false
set_option linter.unusedSectionVars false

namespace Mine

/-- the oracle says what the calls do -/
noncomputable def OrcOk (c : Cfg) (n : Nat) (G : Orc) : Prop :=
  ∀ (f : Addr) (vs : List MV) (us : List Value) (O : List MO) (k : MV → List MO → Prop) (A : Around) (g : Heap) (ρ : Locs) (s : Shared) (R : Result → Shared → Prop),
    G f vs O k → RmC A n → Mem c g s.heap ρ O → IsAll g ρ vs us → c.g₀.objs.size ≤ s.heap.objs.size →
    (∀ (r : MV) (O' : List MO) (g' : Heap) (ρ' : Locs) (v : Value) (h' : Heap) (tk' : Nat), k r O' → Sub g g' → ρ <+: ρ' → Mem c g' h' ρ' O' → Is g' ρ' r v → R (.ok (.ret v)) { s with heap := h', toks := tk' }) →
    codeAny (model c.prog c.w) A (.call (.ref f) ⟨us, []⟩) R s

section
variable {c : Cfg} {env : Env} {names : List Str} {n : Nat} {G : Orc} {g h h' : Heap} {ρ : Locs} {O : List MO} {m : Str → Option Value} {σ : S}

/-- around a call: all but the cells is laid down, and afterwards the frame stands again -/
theorem St.call (X : St c env names g h ρ m σ) : ∃ g', Sub g g' ∧ Mem c g' h ρ σ.obs ∧ (∀ b o, h.get? b = some o → b ∉ ρ.map (·.2) → g'.get? b = some o) ∧
    ∀ g'' h'' ρ'' O', Sub g' g'' → ρ <+: ρ'' → Mem c g'' h'' ρ'' O' → ∃ g3, Sub g g3 ∧ St c env names g3 h'' ρ'' m ⟨σ.loc, O'⟩ ∧ ∀ r v, Is g'' ρ'' r v → Is g3 ρ'' r v := by
  obtain ⟨g', s, M, ins, _⟩ := X.mem.grow X.mem.keep (fun p _ o e => e) [] (fun b hb => nomatch hb)
  refine ⟨g', s, M, fun b o e hn => ins b o e hn (fun hb => nomatch hb), fun g'' h'' ρ'' O' s2 p2 M2 => ?_⟩
  obtain ⟨oL, es, ep, hL, hd, rest⟩ := X.ns
  have nL : env.locals ∉ ρ.map (·.2) := fun hm => by
    obtain ⟨p, hp, e⟩ := List.mem_map.mp hm
    exact X.neL p hp e
  have gL' : g''.get? env.locals = some oL := s2 _ _ (ins _ _ hL nL (fun hb => nomatch hb))
  have asd : ∀ o, g''.get? env.locals = some o → Aside o := fun o e => by
    rw [gL'] at e; cases e; exact .inl ⟨es, ep, hd⟩
  have but : SubBut env.locals g'' (g''.hide env.locals) := fun a o hne e => (Heap.hide_ne _ hne).trans e
  have s3 : Sub g (g''.hide env.locals) := fun b o e => by
    have hne : b ≠ env.locals := fun z => by rw [z, X.gL] at e; cases e
    exact (Heap.hide_ne _ hne).trans (s2 _ _ (s _ _ e))
  refine ⟨g''.hide env.locals, s3, ⟨⟨X.mem.base.trans s3, fun b o e => M2.keep _ _ (Heap.of_hide e), M2.len, fun p hp => ?_, M2.fresh, M2.nd, fun k o p e1 e2 => (M2.objs k o p e1 e2).but but asd⟩,
    ⟨oL, es, ep, M2.keep _ _ gL', hd, rest⟩, Heap.hide_self _ _, fun p hp e => ?_, fun i x v e1 e2 => (X.locs i x v e1 e2).mono s3 p2, X.size⟩, fun r v hi => hi.but but asd⟩
  · cases e : (g''.hide env.locals).get? p.2 with
    | none => rfl
    | some o => have := Heap.of_hide e; rw [M2.cell p hp] at this; cases this
  · have := M2.cell p hp
    rw [e, gL'] at this; cases this

theorem call_orc {A : Around} {s : Shared} {f : Addr} {vs : List MV} {us : List Value} {k : MV → S → Prop} {Q : Value → Shared → Prop} {E : Value → Shared → Prop} (F : Frm c env names) (hO : OrcOk c n G) (hr : RmC A n) (X : St c env names g s.heap ρ m σ)
    (hv : G f vs σ.obs fun r O => k r ⟨σ.loc, O⟩) (ha : IsAll g ρ vs us) (ok : OkE c env names g ρ (fun g ρ x v => Is g ρ x v) k Q s) : wpAny (model c.prog c.w) A (call (.ref f) us) Q E s := by
  refine wpAny_call ?_
  obtain ⟨g1, s1, M1, _, back⟩ := X.call
  refine hO f vs us σ.obs _ A g1 ρ s _ hv hr M1 (ha.mono s1 (List.prefix_refl _)) (X.lt_above F) fun r O' g2 ρ2 v h2 tk2 hk s2 p2 M2 hi => ?_
  obtain ⟨g3, s3, X3, hI⟩ := back g2 h2 ρ2 O' s2 p2 M2
  exact ok r ⟨σ.loc, O'⟩ g3 ρ2 m v h2 tk2 hk s3 p2 X3 (hI r v hi)

theorem sim_callf {pos : Pos} {x : Str} {p : Pos} {args : List Expr} {as : MEs} {f : Addr} (C : c.Ok) (F : Frm c env names) (hO : OrcOk c n G) (hx : env.kindOf x = some .globalImplicit) (e : nsIn c.K mainGlobals x = some (some (.ref f))) (hk : keepIn c.K (.ref f) = true) (hd : (x == ("__debug__" : Str)) = false)
    (hp : (backTo pos (starEach args env)).any (·.1) = false) (h1 : SimEs c env names n (spliced (backTo pos (starEach args env))) (evEs G c.T as)) : SimE c env names n (eval (.Call (.Name x p) args [] pos) env) (evE G c.T (.callf f as)) := by
  intro A σ k g ρ m s Q E hr hv X ok
  refine Call_ (load_global C F hx e hd X (PySem.W.callWith_of (P := c.K.In) (by rw [hp]; rfl) (keeps_K hk) (evalArgs_of hp (h1 A σ _ g ρ m s _ E hr (by unfold evE at hv; exact hv) X ?_))))
  intro xs σ1 g1 ρ1 m1 vs H1 t1 hk1 s1 p1 X1 i1
  refine ⟨C.kin.keeps (X1.mem.base.trans X1.mem.keep), ?_⟩
  exact call_orc (s := { s with heap := H1, toks := t1 }) (k := k) F hO hr.c X1 hk1 i1 fun r σ2 g2 ρ2 m2 v H2 t2 hk2 s2 p2 X2 i2 => ok r σ2 g2 ρ2 m2 v H2 t2 hk2 (s1.trans s2) (p1.trans p2) X2 i2

/-! ### making an object of a class -/
theorem St.newInst (F : Frm c env names) (X : St c env names g h ρ m σ) (cc : Nat) : ∃ g', Sub g g' ∧ St c env names g' ((h.push emptyDict).push (instObj cc h.objs.size)) (ρ ++ [(h.objs.size + 1, h.objs.size)]) m ⟨σ.loc, σ.obs ++ [.inst cc []]⟩ := by
  have hh : Sub h ((h.push emptyDict).push (instObj cc h.objs.size)) := (sub_push h _).trans (sub_push _ _)
  have gd : g.get? h.objs.size = none := by
    cases e : g.get? h.objs.size with
    | none => rfl
    | some o => exact absurd (Heap.lt_size (X.mem.keep _ _ e)) (Nat.lt_irrefl _)
  obtain ⟨g', s, M, ins, out⟩ := X.mem.grow (X.mem.keep.trans hh) (fun p _ o e => hh _ _ e) [env.locals, h.objs.size] (fun b hb => by
    rcases List.mem_cons.mp hb with rfl | hb
    · exact X.gL
    · rw [List.mem_singleton.mp hb]; exact gd)
  have X' : St c env names g' ((h.push emptyDict).push (instObj cc h.objs.size)) ρ m σ :=
    ⟨M, X.ns.keeps hh, out _ (.head _), X.neL, fun i x v e1 e2 => (X.locs i x v e1 e2).mono s (List.prefix_refl _), X.size⟩
  have nc : ∀ b, h.objs.size ≤ b → b ∉ ρ.map (·.2) := fun b hb hm => by
    obtain ⟨p, hp, e⟩ := List.mem_map.mp hm
    obtain ⟨ob, hob⟩ := X.mem.there hp
    have := Heap.lt_size hob
    rw [e] at this
    exact absurd this (Nat.not_lt.mpr hb)
  have hL := X.ns.lt
  have hi : ((h.push emptyDict).push (instObj cc h.objs.size)).get? (h.objs.size + 1) = some (instObj cc h.objs.size) := by
    have := Heap.get?_push_size (h.push emptyDict) (o := instObj cc h.objs.size) rfl
    rwa [Heap.size_push] at this
  have hd : ((h.push emptyDict).push (instObj cc h.objs.size)).get? h.objs.size = some emptyDict := Heap.get?_push_of_some _ (Heap.get?_push_size h rfl)
  refine ⟨g', s, X'.new (p := (h.objs.size + 1, h.objs.size)) (out _ (.tail _ (.head _))) (X.lt_above F) (nc _ (Nat.le_refl _)) (Ne.symm (Nat.ne_of_lt hL)) ⟨?_, fun q hq => (nomatch hq), [], 0, hd, .nil⟩⟩
  refine ins _ _ hi (nc _ (Nat.le_succ _)) fun hm => ?_
  rcases List.mem_cons.mp hm with e | hm
  · exact absurd (e ▸ hL) (Nat.not_lt.mpr (Nat.le_succ _))
  · exact absurd (List.mem_singleton.mp hm) (Nat.succ_ne_self _)

theorem iniOk_of {K : Frag} {C f : Addr} (e : iniOk K C f = true) : makesIn K C = true ∧ findIn K (.ref C) "__init__" = some (some (.ref f)) ∧ typeIn K (.ref f) = some (.type "function") ∧ keepIn K (.ref C) = true := by
  simp only [iniOk, Bool.and_eq_true, beq_iff_eq] at e
  obtain ⟨⟨⟨e1, e2⟩, e3⟩, e4⟩ := e
  exact ⟨e1, e2, beq_iff_eq.mp e3, e4⟩

theorem sim_new {pos : Pos} {x : Str} {p : Pos} {args : List Expr} {as : MEs} {cc : Addr} {f : Nat} (C : c.Ok) (F : Frm c env names) (hO : OrcOk c n G) (hx : env.kindOf x = some .globalImplicit) (e : nsIn c.K mainGlobals x = some (some (.ref cc))) (hf : c.T.ini cc = some f) (hd : (x == ("__debug__" : Str)) = false)
    (hp : (backTo pos (starEach args env)).any (·.1) = false) (h1 : SimEs c env names n (spliced (backTo pos (starEach args env))) (evEs G c.T as)) : SimE c env names n (eval (.Call (.Name x p) args [] pos) env) (evE G c.T (.new cc as)) := by
  intro A σ k g ρ m s Q E hr hv X ok
  obtain ⟨I1, I2, I3, I4⟩ := iniOk_of (C.ini cc f hf)
  refine Call_ (load_global C F hx e hd X (PySem.W.callWith_of (P := c.K.In) (by rw [hp]; rfl) (keeps_K I4) (evalArgs_of hp (h1 A σ _ g ρ m s _ E hr (by unfold evE at hv; exact hv) X ?_))))
  intro xs σ1 g1 ρ1 m1 vs H1 t1 hk1 s1 p1 X1 i1
  have KI := C.kin.keeps (X1.mem.base.trans X1.mem.keep)
  refine ⟨KI, wpAny_call ?_⟩
  rw [hf] at hk1
  have hk1 : G f (.own σ1.obs.length :: xs) (σ1.obs ++ [.inst cc []]) fun r O => match r with | .none => k (.own σ1.obs.length) ⟨σ1.loc, O⟩ | _ => False := hk1
  refine make_core (init := .ref f) (makes_of KI I1) (looks_findIn KI I2) (fun self => bind_fn KI self I3) (.inl rfl) ?_
  obtain ⟨g2, s2, X2⟩ := X1.newInst F cc
  obtain ⟨g3, s3, M3, _, back⟩ := X2.call
  refine hO f _ _ _ _ _ g3 _ ⟨_, s.gens, s.drawn, t1, s.os⟩ _ hk1 ⟨hr.1, ?_, ?_⟩ M3 (.cons (.own (c := H1.objs.size) (by rw [X1.mem.len]; exact last_loc)) (i1.mono (s2.trans s3) (List.prefix_append _ _))) (X2.lt_above F) ?_
  · rw [show ([] : List Value) ++ (⟨vs, []⟩ : Args).pos = vs from rfl]
    rw [depth_under_make]; have := hr.2.1; omega
  · rw [show ([] : List Value) ++ (⟨vs, []⟩ : Args).pos = vs from rfl]
    rw [units_under_make]; have := hr.2.2; omega
  · intro r O' g4 ρ4 v h4 tk4 hk4 s4 p4 M4 i4
    cases r <;> first | exact hk4.elim | skip
    cases i4
    refine ⟨rfl, ?_⟩
    obtain ⟨g5, s5, X5, hI⟩ := back g4 h4 ρ4 O' s4 p4 M4
    refine ok _ _ g5 ρ4 m1 _ h4 tk4 hk4 (s1.trans (s2.trans s5)) (p1.trans ((List.prefix_append _ _).trans p4)) X5 (.own (c := H1.objs.size) (prefix_get p4 ?_))
    rw [X1.mem.len]; exact last_loc

end
end Mine
end

section
open PySem PySem.W PyProof.Rows PySem.Calls
set_option Elab.async false
set_option maxRecDepth 100000
set_option linter.unusedVariables false
set_option linter.unusedSectionVars false

namespace Mine

section
variable {c : Cfg} {env : Env} {names : List Str} {n : Nat} {G : Orc} {g h h' : Heap} {ρ : Locs} {O : List MO} {m : Str → Option Value} {σ : S}

theorem Call_meth {A : Around} {E : Value → Shared → Prop} {s : Shared} {o : Expr} {name : Str} {apos pos : Pos} {args : List Expr} {Q : Value → Shared → Prop}
    (hbase : attributeBase o name env (eval o env) = eval o env)
    (hfew : methodCallForm (args.length + ([] : List Keyword).length) (backTo pos (starEach args env)) (backToKw pos (keywordEach [] env)) = true)
    (hline : (apos.endLine == pos.line) = true)
    (h : ∀ pl, wpAny (model c.prog c.w) A (eval o env) (fun ov s₁ => wpAny (model c.prog c.w) A (getMethod ov name pl) (fun fx s₂ => wpAny (model c.prog c.w) A (callWith pos fx.1 fx.2 (backTo pos (starEach args env)) []) Q E s₂) E s₁) E s) :
    wpAny (model c.prog c.w) A (eval (.Call (.Attribute o name apos) args [] pos) env) Q E s := by
  rw [arm_eval_Call, hbase]
  have hpos : methodCallPos true o env apos pos = pure pos := by unfold methodCallPos; simp [hline]
  unfold methodCall
  rw [hfew]
  refine wpAny_bind (wpAny_mono (h (do return (← importBound o env).getD true)) (fun ov s₁ h₁ => ?_) fun _ _ e => e)
  refine wpAny_bind (wpAny_standAt ?_)
  exact wpAny_bind (wpAny_holding (wpAny_mono h₁ (fun fx s₂ h₂ => wpAny_bind (wpAny_of_eq hpos h₂)) fun _ _ e => e))

theorem mthOk_of {K : Frag} {C f : Addr} {x : Str} (e : mthOk K C x f = true) : plainGet K C x = true ∧ findIn K (.ref C) x = some (some (.ref f)) ∧ typeIn K (.ref f) = some (.type "function") ∧ keepIn K (.ref f) = true := by
  simp only [mthOk, Bool.and_eq_true, beq_iff_eq] at e
  obtain ⟨⟨⟨e1, e2⟩, e3⟩, e4⟩ := e
  exact ⟨e1, e2, beq_iff_eq.mp e3, e4⟩

/-- what a method is when it has been found -/
inductive MMIs (c : Cfg) (g : Heap) (ρ : Locs) : MM → Value × List Value → Prop
  | fn {f : Addr} {v : MV} {u : Value} : keepIn c.K (.ref f) = true → Is g ρ v u → MMIs c g ρ (.fn f v) (.ref f, [u])
  | app {p : Nat} {u : Value} : Is g ρ (.own p) u → MMIs c g ρ (.app p) (.builtin "list.append", [u])
  | pop {p : Nat} {u : Value} : Is g ρ (.own p) u → MMIs c g ρ (.pop p) (.builtin "list.pop", [u])
  | get {p : Nat} {u : Value} : Is g ρ (.own p) u → MMIs c g ρ (.get p) (.builtin "dict.get", [u])
  | bits {i : Int} {t : Tok} : MMIs c g ρ (.bits i) (.builtin "int.bit_length", [.int i t])

theorem MMIs.mono {g' : Heap} {ρ' : Locs} {m : MM} {fx : Value × List Value} (s : Sub g g') (p : ρ <+: ρ') (h : MMIs c g ρ m fx) : MMIs c g' ρ' m fx := by
  cases h with
  | fn k h => exact .fn k (h.mono s p)
  | app h => exact .app (h.mono s p)
  | pop h => exact .pop (h.mono s p)
  | get h => exact .get (h.mono s p)
  | bits => exact .bits

/-- the names of the built-in methods stand where they should -/
noncomputable def bltAttrs (attrs : List Str) : Prop := attrs[aAppend]? = some (Str.ofString "append") ∧ attrs[aPop]? = some (Str.ofString "pop") ∧ attrs[aGet]? = some (Str.ofString "get") ∧ attrs[aBits]? = some (Str.ofString "bit_length")

theorem meth_run {A : Around} {E : Value → Shared → Prop} {s : Shared} {x : MV} {u : Value} {a : Nat} {name : Str} {pl : Sem Bool} {k : MM → Prop} {Q : Value × List Value → Shared → Prop} (C : c.Ok) (hb : bltAttrs c.attrs) (ha : c.attrs[a]? = some name) (M : Mem c g s.heap ρ O) (hx : Is g ρ x u)
    (hm : meth c.T x a O k) (q : ∀ mm fx, k mm → MMIs c g ρ mm fx → Q fx s) : wpAny (model c.prog c.w) A (getMethod u name pl) Q E s := by
  unfold meth at hm
  cases x <;> first | exact hm.elim | skip
  · -- an int
    rename_i i
    cases hx with
    | int _ t =>
      cases hq : Nat.beq a aBits with
      | false => rw [hq] at hm; exact hm.elim
      | true =>
        rw [hq] at hm
        obtain rfl := Nat.eq_of_beq_eq_true hq
        obtain rfl : name = Str.ofString "bit_length" := Option.some.inj (ha.symm.trans hb.2.2.2)
        exact getMethod_int_bit_length (q _ _ hm .bits)
  · have hm2 := need_some hm
    clear hm
    obtain ⟨ob, hob, hm⟩ := hm2
    cases ob with
    | list xs =>
      obtain ⟨ad, d, rfl, hρ, e1, hz, ws, hl, hal⟩ := M.own hx hob
      have e1 : ad = d := e1
      subst e1
      obtain ⟨nn, hl⟩ := hl
      dsimp only at hm
      cases hq : Nat.beq a aAppend with
      | true =>
        rw [hq] at hm
        obtain rfl := Nat.eq_of_beq_eq_true hq
        obtain rfl : name = Str.ofString "append" := Option.some.inj (ha.symm.trans hb.1)
        exact getMethod_builtin ⟨_, hl, rfl⟩ PySem.F.plainAttrs_list PySem.F.slot_list_append PySem.F.type_list_append (fun b e => by cases e; exact ⟨_, hl, rfl⟩) (q _ _ hm (.app hx))
      | false =>
        rw [hq] at hm
        cases hq : Nat.beq a aPop with
        | false => rw [hq] at hm; exact hm.elim
        | true =>
          rw [hq] at hm
          obtain rfl := Nat.eq_of_beq_eq_true hq
          obtain rfl : name = Str.ofString "pop" := Option.some.inj (ha.symm.trans hb.2.1)
          exact getMethod_builtin ⟨_, hl, rfl⟩ PySem.F.plainAttrs_list PySem.F.slot_list_pop PySem.F.type_list_pop (fun b e => by cases e; exact ⟨_, hl, rfl⟩) (q _ _ hm (.pop hx))
    | dict es =>
      obtain ⟨ad, d, rfl, hρ, e1, nd, ob, ds, ep, ho, hex, hd, en⟩ := M.own hx hob
      have e1 : ad = d := e1
      subst e1
      dsimp only at hm
      cases hq : Nat.beq a aGet with
      | false => rw [hq] at hm; exact hm.elim
      | true =>
        rw [hq] at hm
        obtain rfl := Nat.eq_of_beq_eq_true hq
        obtain rfl : name = Str.ofString "get" := Option.some.inj (ha.symm.trans hb.2.2.1)
        exact getMethod_builtin ⟨_, ho, hex.1⟩ PySem.F.plainAttrs_dict PySem.F.slot_dict_get PySem.F.type_dict_get (fun b e => by cases e; exact ⟨_, ho, hex.2.1⟩) (q _ _ hm (.get hx))
    | inst cc fs =>
      obtain ⟨hno, hm⟩ := hm
      have hm2 := need_some hm
      clear hm
      obtain ⟨f, hf, hm⟩ := hm2
      obtain ⟨ad, d, rfl, hρ, hO⟩ := M.own hx hob
      obtain ⟨ds, kk, I, fl, okf⟩ := M.inst hO
      obtain ⟨A1, A2, A3, A4⟩ := mthOk_of (C.mth cc a name f hf ha)
      refine method_fn (C.kin.keeps (M.base.trans M.keep)) I (plainGet_of A1).1 (plainGet_of A1).2 A2 A3 ?_ (q _ _ hm (.fn A4 hx))
      show (lookIn name (dictOf ds kk)).map _ = _
      rw [lookIn_dict, getL_of fl.noRef, (fl.get C.anodup ha).2 hno]; rfl

theorem key_mv : ∀ {x : MV} {q : Key}, key? x = some q → x = q.mv
  | .int _, _, e => by cases e; rfl
  | .str _, _, e => by cases e; rfl
  | .tup xs, q, e => by
    have e' : (ints? xs).map Key.kt = some q := e
    obtain ⟨l, e1, rfl⟩ := Option.map_eq_some_iff.mp e'
    have : ∀ (xs : List MV) (l : List Int), ints? xs = some l → xs = l.map MV.int := by
      intro xs
      induction xs with
      | nil => intro l e; cases e; rfl
      | cons y ys ih =>
        intro l e
        cases y <;> first | cases e | skip
        rename_i i
        have e' : (ints? ys).map (i :: ·) = some l := e
        obtain ⟨js, e1, rfl⟩ := Option.map_eq_some_iff.mp e'
        rw [ih js e1]; rfl
    rw [this xs l e1]; rfl
  | .none, _, e => nomatch e
  | .bool _, _, e => nomatch e
  | .flist _, _, e => nomatch e
  | .rng _ _ _, _, e => nomatch e
  | .own _, _, e => nomatch e

theorem Mem.dictT (C : c.Ok) (M : Mem c g h ρ O) {p : Nat} {v : Value} {es : List (Key × MV)} (hv : Is g ρ (.own p) v) (e : O[p]? = some (.dict es)) (hk : ∀ p ∈ es, ∃ k, p.1 = Key.kt k) :
    ∃ d xs, v = .ref d ∧ ρ[p]? = some (d, d) ∧ (d == sysModules) = false ∧ h.DictOfH (TK c.prog c.w) d xs ∧ ZT g ρ es xs ∧ (es.map (·.1)).Nodup ∧ (∀ x ∈ xs, IsTupleKey (intKind c.prog c.w) g x.1 x.2.1) := by
  obtain ⟨a, d, rfl, hρ, e1, nd, ob, ds, ep, ho, hx, hd, en⟩ := M.own hv e
  have e1 : a = d := e1
  subst e1
  obtain ⟨xs, P, H, z⟩ := ents_viewT en hk
  refine ⟨_, xs, rfl, hρ, sys_ne C M hρ, ⟨ob, ds, ep, ho, hx, hd, P, fun x hx => ?_, ?_⟩, z, nd, H⟩
  · obtain ⟨o, its, nn, h1, h2, h3, h4⟩ := H x hx
    exact ⟨o, its, nn, M.keep _ _ h1, h2, h3, h4⟩
  · rw [z.keys] at nd; exact nodup_map_inj nd

theorem tkey_at {l : List Int} {a : Addr} (s : Sub g h) (x : IsTupleKey (intKind c.prog c.w) g l a) : IsTupleKey (intKind c.prog c.w) h l a := by
  obtain ⟨o, its, nn, h1, h2, h3, h4⟩ := x
  exact ⟨o, its, nn, s _ _ h1, h2, h3, h4⟩

theorem units_in {A : Around} (hr : Rm A n) : A.units + 1 < cLine := by have := hr.2.2; omega

theorem dget_run {A : Around} {E : Value → Shared → Prop} {s : Shared} {p : Nat} {u a' d' : Value} {a d : MV} {es : List (Key × MV)} {q : Key} {Q : Value → Shared → Prop} (C : c.Ok) (hr : Rm A n) (M : Mem c g s.heap ρ O) (hx : Is g ρ (.own p) u) (hob : O[p]? = some (.dict es)) (ha : Is g ρ a a') (hd : Is g ρ d d')
    (hq : key? a = some q) (hk : allKin q es) (h : ∀ v tk, Is g ρ ((getK q es).getD d) v → Q v { s with toks := tk }) : wpAny (model c.prog c.w) A (call (.builtin "dict.get") [u, a', d']) Q E s := by
  obtain rfl := key_mv hq
  cases q with
  | ki i =>
    obtain ⟨dd, kvs, rfl, hρ, hs, hdo, z, _⟩ := M.dictOf (kkI (prog := c.prog) (w := c.w)) C hx hob (kin_i hk)
    refine call_meetsIn F.slot_dict_get hdo.typeIs F.entry_dict_get (F.args_dict_get_3 _ _ _) (meets_dict_get_default _ dd (kkI.to ha) hs d') ⟨_, hdo.mapOf, ?_⟩
    refine h _ _ ?_
    obtain ⟨z1, z2⟩ := z.get (kkI (prog := c.prog) (w := c.w)) i
    cases e : getK (.ki i) es with
    | none => rw [z2 e]; exact hd
    | some v => obtain ⟨w', hw, hi⟩ := z1 v e; rw [hw]; exact hi
  | ks i =>
    obtain ⟨dd, kvs, rfl, hρ, hs, hdo, z, _⟩ := M.dictOf (kkS (prog := c.prog) (w := c.w)) C hx hob (kin_s hk)
    refine call_meetsIn F.slot_dict_get hdo.typeIs F.entry_dict_get (F.args_dict_get_3 _ _ _) (meets_dict_get_default _ dd (kkS.to ha) hs d') ⟨_, hdo.mapOf, ?_⟩
    refine h _ _ ?_
    obtain ⟨z1, z2⟩ := z.get (kkS (prog := c.prog) (w := c.w)) i
    cases e : getK (.ks i) es with
    | none => rw [z2 e]; exact hd
    | some v => obtain ⟨w', hw, hi⟩ := z1 v e; rw [hw]; exact hi
  | kt l =>
    obtain ⟨dd, xs, rfl, hρ, hs, hdo, z, _⟩ := M.dictT C hx hob (kin_t hk)
    obtain ⟨ad, rfl, hkey⟩ := tkey_of (prog := c.prog) (w := c.w) ha
    refine call_meetsIn F.slot_dict_get hdo.typeIs F.entry_dict_get (F.args_dict_get_3 _ _ _) (meetsH_dict_get_default (TK c.prog c.w) dd ad hs d') ⟨tupleKind_room_in1 (units_in hr), l, xs, tkey_at M.keep hkey, hdo, ?_⟩
    refine h _ _ ?_
    obtain ⟨z1, z2⟩ := z.get l
    cases e : getK (.kt l) es with
    | none => rw [z2 e]; exact hd
    | some v => obtain ⟨w', hw, hi⟩ := z1 v e; rw [hw]; exact hi

theorem doM_run {A : Around} {E : Value → Shared → Prop} {s : Shared} {mm : MM} {fx : Value × List Value} {vs : List MV} {us : List Value} {k : MV → S → Prop} {Q : Value → Shared → Prop} (C : c.Ok) (F : Frm c env names) (hO : OrcOk c n G) (hr : Rm A n) (X : St c env names g s.heap ρ m σ)
    (hm : MMIs c g ρ mm fx) (ha : IsAll g ρ vs us) (hd : doM G mm vs σ.obs fun r O => k r ⟨σ.loc, O⟩) (ok : OkE c env names g ρ (fun g ρ x v => Is g ρ x v) k Q s) : wpAny (model c.prog c.w) A (call fx.1 (fx.2 ++ us)) Q E s := by
  cases hm with
  | fn hk hv => exact call_orc F hO hr.c X hd (.cons hv ha) ok
  | app hv =>
    have hd2 := need_some hd
    clear hd
    obtain ⟨ob, hob, hd⟩ := hd2
    cases ob <;> first | exact hd.elim | skip
    rename_i xs
    obtain ⟨ad, d, rfl, hρ, e1, hz, ws, hl, hal⟩ := X.mem.own hv hob
    have e1 : ad = d := e1
    subst e1
    dsimp only at hd
    split at hd
    · obtain ⟨hz2, hk⟩ := hd
      cases ha with
      | cons h1 h2 =>
        cases h2
        refine wpAny_list_append_plain hl (fun h1' hp hs => ?_) (by rw [List.size_toArray, ← hal.length]; exact sizeLine_big hz2)
        refine ok _ _ g ρ m _ h1' s.toks hk (Sub.refl _) (List.prefix_refl _) (X.put hρ hs ⟨rfl, by simp; omega, ws ++ [_], ?_, hal.append (.cons h1 .nil)⟩) .none
        simpa using hp
    · exact hd.elim
  | pop hv =>
    have hd2 := need_some hd
    clear hd
    obtain ⟨ob, hob, hd⟩ := hd2
    cases ob <;> first | exact hd.elim | skip
    rename_i xs
    obtain ⟨ad, d, rfl, hρ, e1, hz, ws, ⟨nn, hl⟩, hal⟩ := X.mem.own hv hob
    have e1 : ad = d := e1
    subst e1
    dsimp only at hd
    split at hd
    · have hd2 := need_some hd
      clear hd
      obtain ⟨y, hy, hk⟩ := hd2
      cases ha
      rw [List.getLast?_eq_getElem?] at hy
      obtain ⟨v, hv', hi⟩ := hal.get hy
      have hpos : 0 < xs.length := by
        cases xs with
        | nil => simp at hy
        | cons a b => simp
      have hv2 : ws.toArray[ws.toArray.size - 1]? = some v := by
        rw [List.size_toArray, List.getElem?_toArray, ← hal.length]; exact hv'
      refine call_meets PySem.F.slot_list_pop ⟨_, hl, rfl⟩ PySem.F.entry_list_pop (PySem.F.args_list_pop_1 _) (MeetsSeq.list_pop_last ad _ nn v hv2 (by rw [List.size_toArray, ← hal.length]; rw [sizeLine_eq]; omega)) ⟨hl, ?_⟩
      have hu := PySem.IsL.update hl (fun xs => xs.eraseIdxIfInBounds (ws.toArray.size - 1))
      have er : ws.toArray.eraseIdxIfInBounds (ws.toArray.size - 1) = ws.dropLast.toArray := by
        rw [List.eraseIdxIfInBounds_toArray, List.size_toArray]
        congr 1
        rw [List.eraseIdx_length_sub_one]
      rw [er] at hu
      refine ok _ _ g ρ m _ _ s.toks hk (Sub.refl _) (List.prefix_refl _) (X.put hρ (Heap.SameBut.update ..) ⟨rfl, by simp; omega, ws.dropLast, ⟨_, hu⟩, hal.dropLast⟩) hi
    · exact hd.elim
  | get hv =>
    have hd2 := need_some hd
    clear hd
    obtain ⟨ob, hob, hd⟩ := hd2
    cases ob <;> first | exact hd.elim | skip
    dsimp only at hd
    split at hd
    · have hd2 := need_some hd
      clear hd
      obtain ⟨q, hq, hk, hd⟩ := hd2
      cases ha with
      | cons h1 h2 =>
        cases h2 with
        | cons h2 h3 =>
          cases h3
          exact dget_run C hr X.mem hv hob h1 h2 hq hk fun v tk hi => ok _ σ g ρ m v s.heap tk hd (Sub.refl _) (List.prefix_refl _) X hi
    · exact hd.elim
  | bits =>
    unfold doM at hd
    dsimp only at hd
    split at hd
    · cases ha
      exact call_int_bit_length (ok _ σ g ρ m _ s.heap _ hd (Sub.refl _) (List.prefix_refl _) X (.int _ _))
    · exact hd.elim

theorem callWith_mm {A : Around} {E : Value → Shared → Prop} {s : Shared} {mm : MM} {fx : Value × List Value} {pos : Pos} {trees : List (Bool × Sem Value)} {Q : Value → Shared → Prop} (C : c.Ok) (hm : MMIs c g ρ mm fx) (hp : trees.any (·.1) = false)
    (h : wpAny (model c.prog c.w) A (spliced trees) (fun vs s' => c.K.In s'.heap ∧ wpAny (model c.prog c.w) A (call fx.1 (fx.2 ++ vs)) Q E s') E s) : wpAny (model c.prog c.w) A (callWith pos fx.1 fx.2 trees []) Q E s := by
  cases hm with
  | fn hk hv => exact PySem.W.callWith_of (P := c.K.In) (by rw [hp]; rfl) (keeps_K hk) (evalArgs_of hp h)
  | app hv => exact callWith_builtin hp (evalArgs_of hp (wpAny_mono h (fun _ _ x => x.2) fun _ _ e => e))
  | pop hv => exact callWith_builtin hp (evalArgs_of hp (wpAny_mono h (fun _ _ x => x.2) fun _ _ e => e))
  | get hv => exact callWith_builtin hp (evalArgs_of hp (wpAny_mono h (fun _ _ x => x.2) fun _ _ e => e))
  | bits => exact callWith_builtin hp (evalArgs_of hp (wpAny_mono h (fun _ _ x => x.2) fun _ _ e => e))

theorem sim_callm {o : Expr} {x : Str} {apos pos : Pos} {args : List Expr} {e : ME} {a : Nat} {as : MEs} (C : c.Ok) (hb : bltAttrs c.attrs) (F : Frm c env names) (hO : OrcOk c n G) (ha : c.attrs[a]? = some x)
    (hbase : attributeBase o x env (eval o env) = eval o env)
    (hfew : methodCallForm (args.length + ([] : List Keyword).length) (backTo pos (starEach args env)) (backToKw pos (keywordEach [] env)) = true)
    (hline : (apos.endLine == pos.line) = true) (hp : (backTo pos (starEach args env)).any (·.1) = false)
    (h1 : SimE c env names n (eval o env) (evE G c.T e)) (h2 : SimEs c env names n (spliced (backTo pos (starEach args env))) (evEs G c.T as)) :
    SimE c env names n (eval (.Call (.Attribute o x apos) args [] pos) env) (evE G c.T (.callm e a as)) := by
  intro A σ k g ρ m s Q E hr hv X ok
  refine Call_meth hbase hfew hline fun pl => h1 A σ _ g ρ m s _ E hr (by unfold evE at hv; exact hv) X ?_
  intro y σ1 g1 ρ1 m1 v1 H1 t1 hk1 s1 p1 X1 i1
  refine meth_run (s := { s with heap := H1, toks := t1 }) C hb ha X1.mem i1 hk1 fun mm fx hk hm => ?_
  refine callWith_mm C hm hp (h2 A σ1 _ g1 ρ1 m1 _ _ E hr hk X1 ?_)
  intro xs σ2 g2 ρ2 m2 vs H2 t2 hk2 s2 p2 X2 i2
  refine ⟨C.kin.keeps (X2.mem.base.trans X2.mem.keep), ?_⟩
  refine doM_run (s := { s with heap := H2, toks := t2 }) (k := k) C F hO hr X2 (hm.mono s2 p2) i2 hk2 ?_
  intro r σ3 g3 ρ3 m3 v H3 t3 hk3 s3 p3 X3 i3
  exact ok r σ3 g3 ρ3 m3 v H3 t3 hk3 (s1.trans (s2.trans s3)) (p1.trans (p2.trans p3)) X3 i3

end
end Mine
end

section
open PySem PySem.W PyProof.Rows PySem.Calls
set_option Elab.async false
set_option maxRecDepth 100000
set_option linter.unusedVariables false
set_option linter.unusedSectionVars false

namespace Mine

section
variable {c : Cfg} {env : Env} {names : List Str} {n : Nat} {G : Orc} {g h h' : Heap} {ρ : Locs} {O : List MO} {m : Str → Option Value} {σ : S}

theorem sim_stuck {t : Sem Flow} : SimS c env names n t (evS G c.T .stuck) := fun _ _ _ _ _ _ _ _ _ _ hv => hv.elim

theorem kindF (F : Frm c env names) : (env.scope.kind == .class || (env.scope.kind == .module && env.locals != env.globals)) = false := by rw [F.kind]; rfl

/-- a name is bound -/
theorem store_run {A : Around} {E : Value → Shared → Prop} {s : Shared} {x : Str} {i : Nat} {v : MV} {u : Value} {k : S → Prop} {Q : Unit → Shared → Prop} (F : Frm c env names) (X : St c env names g s.heap ρ m σ) (e : names[i]? = some x) (hk : env.kindOf x = some .local) (hu : Is g ρ v u)
    (q : ∀ m' h' tk, St c env names g h' ρ m' ⟨σ.loc.set i (some v), σ.obs⟩ → Q () { s with heap := h', toks := tk }) : wpAny (model c.prog c.w) A (storeName env x u) Q E s :=
  wpAny_storeName_local hk X.ns (fun h' hn hs => q _ h' _ (X.bind F e hk hu hn hs)) (kindF F)

theorem sim_asg {x : Str} {pos' pos : Pos} {value : Expr} {i : Nat} {a : ME} (F : Frm c env names) (e : names[i]? = some x) (hk : env.kindOf x = some .local) (hs : swapsWith value (some (.Name x pos')) pos.line env = pure false)
    (h1 : SimE c env names n (eval value env) (evE G c.T a)) : SimS c env names n (exec (.Assign [.Name x pos'] value pos) env) (evS G c.T (.asg i a)) := by
  intro A σ k g ρ m s Q E hr hv X ok
  refine wpAny_Assign_Name (h1 A σ _ g ρ m s _ E hr (by unfold evS at hv; exact hv) X ?_) hs
  intro v σ1 g1 ρ1 m1 v1 H1 t1 hk1 s1 p1 X1 i1
  refine store_run (s := { s with heap := H1, toks := t1 }) (k := fun _ => True) F X1 e hk i1 fun m' h' tk X2 => ?_
  exact ok .next _ g1 ρ1 m' .next h' tk hk1 s1 p1 X2 .next

theorem sim_augL {x : Str} {pos' pos : Pos} {value : Expr} {i : Nat} {a : ME} (F : Frm c env names) (e : names[i]? = some x) (hk : env.kindOf x = some .local)
    (h1 : SimE c env names n (eval value env) (evE G c.T a)) : SimS c env names n (exec (.AugAssign (.Name x pos') .Add value pos) env) (evS G c.T (.augL i a)) := by
  intro A σ k g ρ m s Q E hr hv X ok
  unfold evS at hv
  obtain ⟨o, ho, hv⟩ := need_some hv
  obtain ⟨v0, rfl, hv⟩ := need_some hv
  obtain ⟨u0, hu0, hk0⟩ := X.locs i x v0 e ho
  rcases hk0 with ⟨hl, hm⟩ | ⟨hl, _⟩
  · refine wpAny_AugAssign_Name (wpAny_loadName_local F.kind hl X.ns hm ?_)
    refine h1 A σ _ g ρ m s _ E hr hv X ?_
    intro v σ1 g1 ρ1 m1 v1 H1 t1 hk1 s1 p1 X1 i1
    unfold binV at hk1
    have i0 := hu0.mono s1 p1
    cases i0 <;> first | exact hk1.elim | skip
    cases i1 <;> first | exact hk1.elim | skip
    refine PySem.P.iadd_int ?_
    refine store_run (s := { s with heap := H1, toks := t1 + 1 }) (k := fun _ => True) F X1 e hk (.int _ _) fun m' h' tk X2 => ?_
    exact ok .next _ g1 ρ1 m' .next h' tk hk1 s1 p1 X2 .next
  · rw [hk] at hl; cases hl

theorem sim_ret {x : Expr} {pos : Pos} {a : ME} (h1 : SimE c env names n (eval x env) (evE G c.T a)) : SimS c env names n (exec (.Return (some x) pos) env) (evS G c.T (.ret a)) := by
  intro A σ k g ρ m s Q E hr hv X ok
  refine wpAny_Return_some (h1 A σ _ g ρ m s _ E hr (by unfold evS at hv; exact hv) X ?_)
  intro v σ1 g1 ρ1 m1 v1 H1 t1 hk1 s1 p1 X1 i1
  exact ok _ σ1 g1 ρ1 m1 _ H1 t1 hk1 s1 p1 X1 (.ret i1)

theorem sim_expr {x : Expr} {pos : Pos} {a : ME} (hi : interactive env = false) (hs : swapsWith x none pos.line env = pure false) (h1 : SimE c env names n (eval x env) (evE G c.T a)) : SimS c env names n (exec (.Expr x pos) env) (evS G c.T (.expr a)) := by
  intro A σ k g ρ m s Q E hr hv X ok
  refine wpAny_Expr (h1 A σ _ g ρ m s _ E hr (by unfold evS at hv; exact hv) X ?_) hi hs
  intro v σ1 g1 ρ1 m1 v1 H1 t1 hk1 s1 p1 X1 i1
  cases i1 <;> first | exact hk1.elim | skip
  · exact ok _ σ1 g1 ρ1 m1 _ H1 t1 hk1 s1 p1 X1 .next
  · exact ok _ σ1 g1 ρ1 m1 _ H1 t1 hk1 s1 p1 X1 .next

theorem sim_cont {pos : Pos} : SimS c env names n (exec (.Continue pos) env) (evS G c.T .cont) := by
  intro A σ k g ρ m s Q E hr hv X ok
  exact wpAny_Continue (ok _ σ g ρ m _ s.heap s.toks (by unfold evS at hv; exact hv) (Sub.refl _) (List.prefix_refl _) X .cont)

theorem simSs_nil : SimS c env names n (execs [] env) (evSs G c.T .nil) := by
  intro A σ k g ρ m s Q E hr hv X ok
  exact wpAny_execs_nil (ok _ σ g ρ m _ s.heap s.toks (by unfold evSs at hv; exact hv) (Sub.refl _) (List.prefix_refl _) X .next)

theorem simSs_cons {st : Stmt} {rest : List Stmt} {a : MS} {as : MSs} (h1 : SimS c env names n (exec st env) (evS G c.T a)) (h2 : SimS c env names n (execs rest env) (evSs G c.T as)) :
    SimS c env names n (execs (st :: rest) env) (evSs G c.T (.cons a as)) := by
  intro A σ k g ρ m s Q E hr hv X ok
  refine wpAny_execs_cons (h1 A σ _ g ρ m s _ E hr (by unfold evSs at hv; exact hv) X ?_)
  intro f σ1 g1 ρ1 m1 v1 H1 t1 hk1 s1 p1 X1 i1
  cases i1 with
  | next =>
    refine h2 A σ1 k g1 ρ1 m1 { s with heap := H1, toks := t1 } Q E hr hk1 X1 ?_
    intro f σ2 g2 ρ2 m2 v2 H2 t2 hk2 s2 p2 X2 i2
    exact ok _ σ2 g2 ρ2 m2 _ H2 t2 hk2 (s1.trans s2) (p1.trans p2) X2 i2
  | cont => exact ok _ σ1 g1 ρ1 m1 _ H1 t1 hk1 s1 p1 X1 .cont
  | brk => exact ok _ σ1 g1 ρ1 m1 _ H1 t1 hk1 s1 p1 X1 .brk
  | ret h => exact ok _ σ1 g1 ρ1 m1 _ H1 t1 hk1 s1 p1 X1 (.ret h)

theorem sim_iff {t : Expr} {body orelse : List Stmt} {pos : Pos} {b : MT} {a1 a2 : MSs} (h0 : SimT c env names n (isTrue t env (eval t env)) (evT G c.T b)) (h1 : SimS c env names n (execs body env) (evSs G c.T a1)) (h2 : SimS c env names n (execs orelse env) (evSs G c.T a2)) :
    SimS c env names n (exec (.If t body orelse pos) env) (evS G c.T (.iff b a1 a2)) := by
  intro A σ k g ρ m s Q E hr hv X ok
  refine wpAny_If (h0 A σ _ g ρ m s _ E hr (by unfold evS at hv; exact hv) X ?_)
  intro b σ1 g1 ρ1 m1 v1 H1 t1 hk1 s1 p1 X1 i1
  subst i1
  cases b with
  | true =>
    refine h1 A σ1 k g1 ρ1 m1 { s with heap := H1, toks := t1 } Q E hr hk1 X1 ?_
    intro y σ2 g2 ρ2 m2 v2 H2 t2 hk2 s2 p2 X2 i2
    exact ok _ σ2 g2 ρ2 m2 _ H2 t2 hk2 (s1.trans s2) (p1.trans p2) X2 i2
  | false =>
    refine h2 A σ1 k g1 ρ1 m1 { s with heap := H1, toks := t1 } Q E hr hk1 X1 ?_
    intro y σ2 g2 ρ2 m2 v2 H2 t2 hk2 s2 p2 X2 i2
    exact ok _ σ2 g2 ρ2 m2 _ H2 t2 hk2 (s1.trans s2) (p1.trans p2) X2 i2

theorem op_mul {A : Around} {s : Shared} {x y : Int} {t u : Tok} {k : MV → Prop} {Q : Value → Shared → Prop} {E : Value → Shared → Prop} (_ : Rm A n) (h : opB .mul x y fun z => k (.int z)) (q : ∀ z tk tk', k (.int z) → Q (.int z tk') { s with toks := tk }) : wpAny (model c.prog c.w) A (binaryOp .Mult (.int x t) (.int y u)) Q E s :=
  PySem.P.mul_int (q _ _ _ h.2.2) (IntMulOk.of_bits (Nat.le_trans (intBits_le (k := 30000) h.1) (by decide)) (Nat.le_trans (intBits_le (k := 30000) h.2.1) (by decide)))

/-! ### an item is stored -/
theorem getK_mem {q : Key} : ∀ {es : List (Key × MV)}, getK q es = none → q ∉ es.map (·.1)
  | [], _ => by simp
  | p :: r, e => by
    rw [getK_cons] at e
    by_cases hp : p.1 = q
    · rw [if_pos hp] at e; cases e
    · rw [if_neg hp] at e
      rw [List.map_cons, List.mem_cons, not_or]
      exact ⟨Ne.symm hp, getK_mem e⟩

theorem setS_run {A : Around} {E : Value → Shared → Prop} {s : Shared} {x y v : MV} {u w z : Value} {k : List MO → Prop} {Q : Unit → Shared → Prop} (C : c.Ok) (hr : Rm A n) (X : St c env names g s.heap ρ m σ) (hx : Is g ρ x u) (hy : Is g ρ y w) (hv : Is g ρ v z) (hs : setS x y v σ.obs k)
    (q : ∀ O' h' tk, k O' → St c env names g h' ρ m ⟨σ.loc, O'⟩ → Q () { s with heap := h', toks := tk }) : wpAny (model c.prog c.w) A (setItem u w z) Q E s := by
  unfold setS at hs
  cases x <;> first | exact hs.elim | skip
  rename_i p
  have hs2 := need_some hs
  clear hs
  obtain ⟨ob, hob, hs⟩ := hs2
  cases ob <;> first | exact hs.elim | skip
  · rename_i xs
    cases y <;> first | exact hs.elim | skip
    rename_i i
    obtain ⟨h0, h1, hl, hk⟩ := hs
    obtain ⟨ad, d, rfl, hρ, e1, hz, vs, ⟨nn, hpl⟩, ha⟩ := X.mem.own hx hob
    have e1 : ad = d := e1
    subst e1
    cases hy
    have hlen := ha.length
    refine ki_setAt (n := nn) hpl h0 (by omega) (by rw [List.size_toArray]; omega) ?_
    have hu := PySem.IsL.update hpl (fun xs => xs.setIfInBounds i.toNat z)
    refine q _ _ s.toks hk (X.put hρ (Heap.SameBut.update ..) ⟨rfl, by rw [List.length_set]; exact hz, vs.set i.toNat z, ?_, ha.set hv⟩)
    have es : vs.toArray.setIfInBounds i.toNat z = (vs.set i.toNat z).toArray := by simp
    rw [es] at hu
    exact ⟨_, hu⟩
  · rename_i es
    have hs2 := need_some hs
    clear hs
    obtain ⟨qk, hq, hk, hz, hn, hs⟩ := hs2
    obtain rfl := key_mv hq
    cases qk with
    | ki i =>
      obtain ⟨dd, kvs, rfl, hρ, hsy, hdo, zz, nd⟩ := X.mem.dictOf (kkI (prog := c.prog) (w := c.w)) C hx hob (kin_i hk)
      refine wpAny_setItem_pairs (kkI.to hy) hdo (fun h' hd' hsame => ?_) (by rw [← zz.len]; exact sizeLine_big hz)
      refine q _ h' _ hs (X.put hρ hsame ?_)
      have ndk : (kvs.map (·.1)).Nodup := by rw [zz.keys] at nd; exact nodup_map_inj nd
      obtain ⟨o, ds, ep, a1, a2, a3, a4, a5, a6⟩ := hd'
      exact ⟨rfl, putK_nodup nd, o, ds, ep, a1, a2, a3, (zz.put (kkI (prog := c.prog) (w := c.w)) hv ndk).ents (kkI (prog := c.prog) (w := c.w)) a5 fun e he => a4 e (Array.mem_toList_iff.mp he)⟩
    | ks i =>
      obtain ⟨dd, kvs, rfl, hρ, hsy, hdo, zz, nd⟩ := X.mem.dictOf (kkS (prog := c.prog) (w := c.w)) C hx hob (kin_s hk)
      refine wpAny_setItem_pairs (kkS.to hy) hdo (fun h' hd' hsame => ?_) (by rw [← zz.len]; exact sizeLine_big hz)
      refine q _ h' _ hs (X.put hρ hsame ?_)
      have ndk : (kvs.map (·.1)).Nodup := by rw [zz.keys] at nd; exact nodup_map_inj nd
      obtain ⟨o, ds, ep, a1, a2, a3, a4, a5, a6⟩ := hd'
      exact ⟨rfl, putK_nodup nd, o, ds, ep, a1, a2, a3, (zz.put (kkS (prog := c.prog) (w := c.w)) hv ndk).ents (kkS (prog := c.prog) (w := c.w)) a5 fun e he => a4 e (Array.mem_toList_iff.mp he)⟩
    | kt l =>
      obtain ⟨dd, xs, rfl, hρ, hsy, hdo, zz, nd, hkeys⟩ := X.mem.dictT C hx hob (kin_t hk)
      obtain ⟨ad, rfl, hkey⟩ := tkey_of (prog := c.prog) (w := c.w) hy
      have hnone : atKey xs l = none := (zz.get l).2 hn
      refine wpAny_setItem_heap (tupleKind_room_in1 (units_in hr)) (tkey_at X.mem.keep hkey) hdo (fun h' hd' hsame => ?_) (by rw [← zz.len]; exact sizeLine_big hz)
      refine q _ h' _ hs (X.put hρ hsame ?_)
      rw [storedH_new hnone] at hd'
      obtain ⟨o, ds, ep, a1, a2, a3, a4, a5, a6⟩ := hd'
      refine ⟨rfl, putK_nodup nd, o, ds, ep, a1, a2, a3, ?_⟩
      rw [putK_old (getK_mem hn), a4]
      exact ZT.ents (fun x hx => by
        rcases List.mem_append.mp hx with hx | hx
        · exact hkeys x hx
        · rw [List.mem_singleton.mp hx]; exact hkey) (zz.app (.cons hv .nil))

/-! ### an attribute is stored -/
noncomputable def ledger (h : Heap) (L d : Addr) : List (Addr × Obj) := (List.range h.objs.size).filterMap fun b => if b = L ∨ b = d then none else (h.get? b).map fun o => (b, o)

theorem mem_ledger {h : Heap} {L d b : Addr} {o : Obj} : (b, o) ∈ ledger h L d ↔ h.get? b = some o ∧ b ≠ L ∧ b ≠ d := by
  unfold ledger
  rw [List.mem_filterMap]
  constructor
  · rintro ⟨a, ha, e⟩
    split at e
    · cases e
    · rename_i hn
      rw [not_or] at hn
      obtain ⟨o', ho, e2⟩ := Option.map_eq_some_iff.mp e
      cases e2
      exact ⟨ho, hn⟩
  · rintro ⟨ho, h1, h2⟩
    refine ⟨b, List.mem_range.mpr (Heap.lt_size ho), ?_⟩
    rw [if_neg (by rw [not_or]; exact ⟨h1, h2⟩), ho]; rfl

theorem St.put2 (X : St c env names g h ρ m σ) {k : Nat} {p : Addr × Addr} {o' : MO} (e : ρ[k]? = some p) (hs : ∀ b o, b ≠ env.locals → b ≠ p.2 → h.get? b = some o → h'.get? b = some o) (hn : h'.Ns env.locals m) (ho : ObjIs c.prog c.w c.attrs c.T.fld g ρ o' p h') : St c env names g h' ρ m ⟨σ.loc, σ.obs.set k o'⟩ := by
  refine ⟨⟨X.mem.base, fun b o eb => hs b o (fun z => ?_) (fun z => ?_) (X.mem.keep b o eb), by rw [List.length_set]; exact X.mem.len, X.mem.cell, X.mem.fresh, X.mem.nd, fun j o q e1 e2 => ?_⟩, hn, X.gL, X.neL, X.locs, X.size⟩
  · subst z; rw [X.gL] at eb; cases eb
  · subst z; rw [X.mem.cell p (List.mem_of_getElem? e)] at eb; cases eb
  · by_cases hj : k = j
    · subst hj
      rw [e] at e2; cases e2
      have hk : k < σ.obs.length := X.mem.len ▸ (List.getElem?_eq_some_iff.mp e).1
      rw [List.getElem?_set_self hk] at e1; cases e1
      exact ho
    · rw [List.getElem?_set_ne hj] at e1
      refine (X.mem.objs j o q e1 e2).mono (Sub.refl _) (List.prefix_refl _) fun ob hob => hs _ _ (X.neL q (List.mem_of_getElem? e2)) (fun z => hj ?_) hob
      refine nodup_get X.mem.nd (a := p.2) ?_ ?_
      · rw [List.getElem?_map, e]; rfl
      · rw [List.getElem?_map, e2, ← z]; rfl

theorem getF_put {a : Nat} {x : MV} : ∀ {fs : List (Nat × MV)} {q : Nat × MV}, q ∈ putF a x fs → q ∈ fs ∨ q = (a, x)
  | [], q, h => .inr (List.mem_singleton.mp h)
  | p :: r, q, h => by
    rw [putF_cons] at h
    split at h
    · rcases List.mem_cons.mp h with h | h
      · exact .inr h
      · exact .inl (.tail _ h)
    · rcases List.mem_cons.mp h with h | h
      · exact .inl (h ▸ .head _)
      · rcases getF_put h with h | h
        · exact .inl (.tail _ h)
        · exact .inr h

theorem any_find {x : Str} {ds : List DictEntry} (h : ds.any (·.refKey) = false) (n : Nat) : (lookIn x (dictOf ds n)).isSome = true := by
  rw [lookIn_dict, getL_of h]; rfl

theorem setA_run {A : Around} {E : Value → Shared → Prop} {s : Shared} {x v : MV} {u z : Value} {a : Nat} {name : Str} {k : List MO → Prop} {Q : Unit → Shared → Prop} (C : c.Ok) (ha : c.attrs[a]? = some name) (X : St c env names g s.heap ρ m σ) (hx : Is g ρ x u) (hv : Is g ρ v z) (hs : setA c.T x a v σ.obs k)
    (q : ∀ O' h' tk, k O' → St c env names g h' ρ m ⟨σ.loc, O'⟩ → Q () { s with heap := h', toks := tk }) : wpAny (model c.prog c.w) A (setAttr u name z) Q E s := by
  unfold setA at hs
  cases x <;> first | exact hs.elim | skip
  rename_i p
  have hs2 := need_some hs
  clear hs
  obtain ⟨ob, hob, hs⟩ := hs2
  cases ob <;> first | exact hs.elim | skip
  rename_i cc fs
  obtain ⟨hf, hlen, hk⟩ := hs
  obtain ⟨ad, d, rfl, hρ, hO⟩ := X.mem.own hx hob
  obtain ⟨ds, kk, I, fl, okf⟩ := X.mem.inst hO
  obtain ⟨A1, A2, ⟨at', A3, A4⟩, A5, A6, A7⟩ := attrOk_of (C.fld cc a name hf ha)
  have K1 : c.K.In s.heap := C.kin.keeps (X.mem.base.trans X.mem.keep)
  have hdL : d ≠ env.locals := X.neL _ (List.mem_of_getElem? hρ)
  have hd : s.heap.get? d = some (dictOf ds kk) := by
    obtain ⟨_, _, _, hd⟩ := I; exact hd
  refine set_plain K1 I A5 ?_
  refine osa_dict (s := { s with toks := s.toks + 1 }) (h₀ := {}) (L := env.locals) (m := m) (dx := d) (pre := []) (post := ledger s.heap env.locals d) (es := putL name (PyData.keyHash c.w.params name) (.str name (s.toks + 1)) z ds) (n := putN name ds kk) ⟨X.ns, fun b o e => ?_, Nat.zero_le _⟩ (fun q hq => ?_) K1 I rfl A6 A7 A2 (any_find fl.noRef kk) (fun _ h => nomatch h) (fun q hq => ?_) (putName_dict ..) rfl ?_ fun h' F' N' => ?_
  · exact absurd (Heap.lt_size e) (Nat.not_lt_zero _)
  · have em : ∀ b : Addr, ({} : Heap).get? b = none := fun b => by
      cases e : ({} : Heap).get? b with
      | none => rfl
      | some o => exact absurd (Heap.lt_size e) (Nat.not_lt_zero _)
    rcases List.mem_cons.mp hq with rfl | hq
    · exact ⟨hd, hdL, em _⟩
    · obtain ⟨h1, h2, h3⟩ := mem_ledger.mp (show (q.1, q.2) ∈ _ from hq)
      exact ⟨h1, h2, em _⟩
  · exact (mem_ledger.mp (show (q.1, q.2) ∈ _ from hq)).2.2
  · have := putL_len name (PyData.keyHash c.w.params name) (.str name (s.toks + 1)) z ds
    have := fl.len
    omega
  · refine q _ h' _ hk (X.put2 hρ (fun b o h1 h2 hb => (N' _ (.tail _ (mem_ledger.mpr ⟨hb, h1, h2⟩))).1) F'.ns ⟨hO.1, fun r hr => ?_, _, _, (N' _ (.head _)).1, fl.put C.anodup ha hv⟩)
    rcases getF_put hr with hr | rfl
    · exact okf r hr
    · exact hf

theorem sim_asgA {o : Expr} {x : Str} {pos' pos : Pos} {value : Expr} {a : Nat} {e1 e2 : ME} (C : c.Ok) (ha : c.attrs[a]? = some x) (hs : swapsWith value (some (.Attribute o x pos')) pos.line env = pure false)
    (h1 : SimE c env names n (eval value env) (evE G c.T e2)) (h2 : SimE c env names n (eval o env) (evE G c.T e1)) : SimS c env names n (exec (.Assign [.Attribute o x pos'] value pos) env) (evS G c.T (.asgA e1 a e2)) := by
  intro A σ k g ρ m s Q E hr hv X ok
  refine plainObj_wpAny_Assign_Attribute (h1 A σ _ g ρ m s _ E hr (by unfold evS at hv; exact hv) X ?_) hs
  intro v σ1 g1 ρ1 m1 v1 H1 t1 hk1 s1 p1 X1 i1
  refine h2 A σ1 _ g1 ρ1 m1 { s with heap := H1, toks := t1 } _ E hr hk1 X1 ?_
  intro y σ2 g2 ρ2 m2 v2 H2 t2 hk2 s2 p2 X2 i2
  refine setA_run (s := { s with heap := H2, toks := t2 }) C ha X2 i2 (i1.mono s2 p2) hk2 fun O' h' tk hk X3 => ?_
  exact ok .next _ g2 ρ2 m2 .next h' tk hk (s1.trans s2) (p1.trans p2) X3 .next

theorem sim_asgS {o i : Expr} {pos' pos : Pos} {value : Expr} {e1 e2 e3 : ME} (C : c.Ok) (hs : swapsWith value (some (.Subscript o i pos')) pos.line env = pure false)
    (h1 : SimE c env names n (eval value env) (evE G c.T e3)) (h2 : SimE c env names n (eval o env) (evE G c.T e1)) (h3 : SimE c env names n (eval i env) (evE G c.T e2)) : SimS c env names n (exec (.Assign [.Subscript o i pos'] value pos) env) (evS G c.T (.asgS e1 e2 e3)) := by
  intro A σ k g ρ m s Q E hr hv X ok
  refine wpAny_Assign_Subscript (h1 A σ _ g ρ m s _ E hr (by unfold evS at hv; exact hv) X ?_) hs
  intro v σ1 g1 ρ1 m1 v1 H1 t1 hk1 s1 p1 X1 i1
  refine h2 A σ1 _ g1 ρ1 m1 { s with heap := H1, toks := t1 } _ E hr hk1 X1 ?_
  intro y σ2 g2 ρ2 m2 v2 H2 t2 hk2 s2 p2 X2 i2
  refine h3 A σ2 _ g2 ρ2 m2 { s with heap := H2, toks := t2 } _ E hr hk2 X2 ?_
  intro z σ3 g3 ρ3 m3 v3 H3 t3 hk3 s3 p3 X3 i3
  refine setS_run (s := { s with heap := H3, toks := t3 }) C hr X3 (i2.mono s3 p3) i3 (i1.mono (s2.trans s3) (p2.trans p3)) hk3 fun O' h' tk hk X4 => ?_
  exact ok .next _ g3 ρ3 m3 .next h' tk hk (s1.trans (s2.trans s3)) (p1.trans (p2.trans p3)) X4 .next

theorem sim_augS {o i : Expr} {pos' pos : Pos} {value : Expr} {e1 e2 e3 : ME} (C : c.Ok) (ha : ∀ ov iv new, augStore i ov iv new = (do holding [new, ov, iv] (setItem ov iv new); release [new, ov, iv] []; pure .next))
    (h1 : SimE c env names n (eval value env) (evE G c.T e3)) (h2 : SimE c env names n (eval o env) (evE G c.T e1)) (h3 : SimE c env names n (eval i env) (evE G c.T e2)) : SimS c env names n (exec (.AugAssign (.Subscript o i pos') .Add value pos) env) (evS G c.T (.augS e1 e2 e3)) := by
  intro A σ k g ρ m s Q E hr hv X ok
  refine wpAny_AugAssign_Subscript_any (h2 A σ _ g ρ m s _ E hr (by unfold evS at hv; exact hv) X ?_) ha
  intro y σ1 g1 ρ1 m1 v1 H1 t1 hk1 s1 p1 X1 i1
  refine h3 A σ1 _ g1 ρ1 m1 { s with heap := H1, toks := t1 } _ E hr hk1 X1 ?_
  intro z σ2 g2 ρ2 m2 v2 H2 t2 hk2 s2 p2 X2 i2
  refine (getS_run (A := A) (E := E) (s := { s with heap := H2, toks := t2 }) C X2.mem (i1.mono s2 p2) i2 hk2 fun r v0 tk hk hi => ?_).1
  refine h1 A σ2 _ g2 ρ2 m2 { s with heap := H2, toks := tk } _ E hr hk X2 ?_
  intro v σ3 g3 ρ3 m3 v3 H3 t3 hk3 s3 p3 X3 i3
  unfold binV at hk3
  have i0 := hi.mono s3 p3
  cases i0 <;> first | exact hk3.elim | skip
  cases i3 <;> first | exact hk3.elim | skip
  replace hk3 : setS y z (.int (_ + _)) σ3.obs (fun O => k .next ⟨σ3.loc, O⟩) := hk3
  refine PySem.P.iadd_int ?_
  refine setS_run (s := { s with heap := H3, toks := t3 + 1 }) C hr X3 (i1.mono (s2.trans s3) (p2.trans p3)) (i2.mono s3 p3) (.int _ _) hk3 fun O' h' tk hk X4 => ?_
  exact ok .next _ g3 ρ3 m3 .next h' tk hk (s1.trans (s2.trans s3)) (p1.trans (p2.trans p3)) X4 .next

end
end Mine
end

section
open PySem PySem.W PyProof.Rows PySem.Calls
set_option Elab.async false
set_option maxRecDepth 100000
set_option linter.unusedVariables false
set_option linter.unusedSectionVars false

namespace Mine

section
variable {c : Cfg} {env : Env} {names : List Str} {n : Nat} {G : Orc} {g h h' : Heap} {ρ : Locs} {O : List MO} {m : Str → Option Value} {σ : S}

/-! ### two names at once -/
theorem sim_asgT {x y : Str} {px py tpos pos : Pos} {kk : Nat} {value : Expr} {i j : Nat} {a : ME} (F : Frm c env names) (ei : names[i]? = some x) (ej : names[j]? = some y) (ki : env.kindOf x = some .local) (kj : env.kindOf y = some .local)
    (hs : swapsWithSole [.Tuple [.Name x px, .Name y py] kk tpos] value pos.line env = pure false) (hw : swappedStores [.Tuple [.Name x px, .Name y py] kk tpos] value env = pure none)
    (h1 : SimE c env names n (eval value env) (evE G c.T a)) : SimS c env names n (exec (.Assign [.Tuple [.Name x px, .Name y py] kk tpos] value pos) env) (evS G c.T (.asgT i j a)) := by
  intro A σ k g ρ m s Q E hr hv X ok
  refine Assign_Tuple (h1 A σ _ g ρ m s _ E hr (by unfold evS at hv; exact hv) X ?_) hs hw
  intro v σ1 g1 ρ1 m1 v1 H1 t1 hk1 s1 p1 X1 i1
  split at hk1
  · rename_i xs a1 a2
    cases i1 with
    | tup ht ha =>
      cases ha with
      | cons b1 hr1 =>
        cases hr1 with
        | cons b2 hr2 =>
          cases hr2
          rename_i t u1 u2
          obtain ⟨o, ho, hc, nn, hd⟩ := ht
          refine wpAny_assign_Tuple (s := { s with heap := H1, toks := t1 }) (items := #[u1, u2]) hr.1 ⟨o, X1.mem.keep _ _ ho, hc, nn, hd⟩ rfl rfl fun h' he => ?_
          have hsub : Sub H1 h' := fun b o e => he b o (Nat.ne_of_lt (Heap.lt_size e)) e
          have X2 := X1.more hsub
          refine assignInOrder_cons (wpAny_assign_Name (store_run (s := { s with heap := h', toks := t1 }) (k := fun _ => True) F X2 ei ki b1 fun m' h2 tk X3 => ?_))
          refine assignInOrder_cons (wpAny_assign_Name (store_run (s := { s with heap := h2, toks := tk }) (k := fun _ => True) F X3 ej kj b2 fun m'' h3 tk' X4 => ?_))
          exact assignInOrder_nil (ok .next _ g1 ρ1 m'' .next h3 tk' hk1 s1 p1 X4 .next)
  · exact hk1.elim

/-! ### while -/
theorem sim_while {t : Expr} {body : List Stmt} {pos : Pos} {b : MT} {a : MSs} (h0 : SimT c env names n (isTrue t env (eval t env)) (evT G c.T b)) (h1 : SimS c env names n (execs body env) (evSs G c.T a)) :
    SimS c env names n (exec (.While t body [] pos) env) (evS G c.T (.while b a)) := by
  intro A σ k g ρ m s Q E hr hv X ok
  unfold evS at hv
  obtain ⟨N, hN⟩ := hv
  refine wpAny_While (codeAny_whileLoop (fun n' s' => ∃ σ' g' ρ' m' h' tk', whileN (evT G c.T b) (evSs G c.T a) n' σ' k ∧ Sub g g' ∧ ρ <+: ρ' ∧ St c env names g' h' ρ' m' σ' ∧ s' = { s with heap := h', toks := tk' }) (fun n' s' hI => ?_) N ⟨σ, g, ρ, m, s.heap, s.toks, hN, Sub.refl _, List.prefix_refl _, X, rfl⟩)
  obtain ⟨σ', g', ρ', m', h', tk', hw, sg, pg, X', rfl⟩ := hI
  cases n' with
  | zero => exact hw.elim
  | succ n' =>
    unfold whileN at hw
    refine h0 A σ' _ g' ρ' m' { s with heap := h', toks := tk' } _ _ hr hw X' ?_
    intro b1 σ1 g1 ρ1 m1 v1 H1 t1 hk1 s1 p1 X1 i1
    subst i1
    cases b1 with
    | false =>
      refine wpAny_execs_nil ?_
      exact ok .next σ1 g1 ρ1 m1 .next H1 t1 hk1 (sg.trans s1) (pg.trans p1) X1 .next
    | true =>
      refine h1 A σ1 _ g1 ρ1 m1 { s with heap := H1, toks := t1 } _ _ hr hk1 X1 ?_
      intro f σ2 g2 ρ2 m2 v2 H2 t2 hk2 s2 p2 X2 i2
      cases i2 with
      | next => exact ⟨n', Nat.lt_succ_self _, σ2, g2, ρ2, m2, H2, t2, hk2, sg.trans (s1.trans s2), pg.trans (p1.trans p2), X2, rfl⟩
      | cont => exact ⟨n', Nat.lt_succ_self _, σ2, g2, ρ2, m2, H2, t2, hk2, sg.trans (s1.trans s2), pg.trans (p1.trans p2), X2, rfl⟩
      | brk => exact ok .next σ2 g2 ρ2 m2 .next H2 t2 hk2 (sg.trans (s1.trans s2)) (pg.trans (p1.trans p2)) X2 .next
      | ret h => exact ok (.ret _) σ2 g2 ρ2 m2 _ H2 t2 hk2 (sg.trans (s1.trans s2)) (pg.trans (p1.trans p2)) X2 (.ret h)

/-! ### for -/
theorem tup_in' {a : Addr} {its : Array Value} (s : Sub g h) (x : g.IsTuple a its) : h.IsTuple a its := by obtain ⟨o, ho, z⟩ := x; exact ⟨o, s _ _ ho, z⟩

/-- all that is no cell and not the frame is laid down -/
theorem St.freeze (X : St c env names g h ρ m σ) : ∃ g', Sub g g' ∧ St c env names g' h ρ m σ ∧ ∀ b o, h.get? b = some o → b ∉ ρ.map (·.2) → b ≠ env.locals → g'.get? b = some o := by
  obtain ⟨g', s, M, ins, out⟩ := X.mem.grow X.mem.keep (fun p _ o e => e) [env.locals] (fun b hb => by rw [List.mem_singleton.mp hb]; exact X.gL)
  exact ⟨g', s, ⟨M, X.ns, out _ (.head _), X.neL, fun i x v e1 e2 => (X.locs i x v e1 e2).mono s (List.prefix_refl _), X.size⟩, fun b o e h1 h2 => ins b o e h1 fun hm => h2 (List.mem_singleton.mp hm)⟩

theorem St.thaw (X : St c env names g h ρ m σ) {I : Addr} {o : Obj} (hI : g.get? I = some o) (A : Aside o) (nc : ∀ v, o.data ≠ .cell v) (hb : c.g₀.get? I = none) :
    St c env names (g.hide I) h ρ m σ ∧ ∀ x v, Is g ρ x v → Is (g.hide I) ρ x v := by
  have asd : ∀ o', g.get? I = some o' → Aside o' := fun o' e => by rw [hI] at e; cases e; exact A
  have but : SubBut I g (g.hide I) := fun a o hne e => (Heap.hide_ne _ hne).trans e
  refine ⟨⟨⟨fun b o' e => (Heap.hide_ne _ fun z => ?_).trans (X.mem.base b o' e), fun b o' e => X.mem.keep _ _ (Heap.of_hide e), X.mem.len, fun p hp => ?_, X.mem.fresh, X.mem.nd, fun k o' p e1 e2 => (X.mem.objs k o' p e1 e2).but but asd⟩, X.ns, ?_, X.neL, fun i x v e1 e2 => ?_, X.size⟩, fun x v hi => hi.but but asd⟩
  · rw [z, hb] at e; cases e
  · cases e : (g.hide I).get? p.2 with
    | none => rfl
    | some o' => have := Heap.of_hide e; rw [X.mem.cell p hp] at this; cases this
  · cases e : (g.hide I).get? env.locals with
    | none => rfl
    | some o' => have := Heap.of_hide e; rw [X.gL] at this; cases this
  · obtain ⟨u, hu, hk⟩ := X.locs i x v e1 e2
    refine ⟨u, hu.but but asd, hk.imp id fun ⟨k, a, ob, e1, e2, e3⟩ => ⟨k, a, ob, e1, but _ _ (fun z => ?_) e2, e3⟩⟩
    rw [z, hI] at e2; cases e2; exact nc _ e3

/-- what stands at I changes, I is nothing of ours -/
theorem St.moreBut (X : St c env names g h ρ m σ) {I : Addr} (hh : SubBut I h h') (gI : g.get? I = none) (nI : I ∉ ρ.map (·.2)) (LI : I ≠ env.locals) : St c env names g h' ρ m σ := by
  refine ⟨⟨X.mem.base, fun b o e => hh b o (fun z => ?_) (X.mem.keep b o e), X.mem.len, X.mem.cell, X.mem.fresh, X.mem.nd, fun k o p e1 e2 => (X.mem.objs k o p e1 e2).mono (Sub.refl _) (List.prefix_refl _) fun ob e => hh _ _ (fun z => nI ?_) e⟩, ?_, X.gL, X.neL, X.locs, X.size⟩
  · rw [z, gI] at e; cases e
  · exact List.mem_map.mpr ⟨p, List.mem_of_getElem? e2, z⟩
  · obtain ⟨o, es, ep, ho, r⟩ := X.ns
    exact ⟨o, es, ep, hh _ _ (Ne.symm LI) ho, r⟩

structure Wk (prog : Program) (w : World) (A : Around) (I : Addr) (xs : List MV) (Sq : Heap → Heap → Locs → Prop) (It : Heap → Nat → Prop) : Prop where
  obj : ∀ h j, It h j → ∃ o, h.get? I = some o ∧ Aside o ∧ ∀ v, o.data ≠ .cell v
  keep : ∀ h h' j, It h j → (∀ o, h.get? I = some o → h'.get? I = some o) → It h' j
  next : ∀ (E : Value → Shared → Prop) (s : Shared) (g : Heap) (ρ : Locs) (j : Nat) (x : MV) (Q : Option Value → Shared → Prop), It s.heap j → Sq g s.heap ρ → xs[j]? = some x → (∀ h' v tk, It h' (j + 1) → Heap.SameBut I s.heap h' → Is g ρ x v → Q (some v) { s with heap := h', toks := tk }) → wpAny (model prog w) A (pyNext (.ref I)) Q E s
  fin : ∀ (E : Value → Shared → Prop) (s : Shared) (g : Heap) (ρ : Locs) (Q : Option Value → Shared → Prop), It s.heap xs.length → Sq g s.heap ρ → (∀ h', Heap.ExtBut I s.heap h' → Q none { s with heap := h' }) → wpAny (model prog w) A (pyNext (.ref I)) Q E s

theorem for_run {A : Around} {s : Shared} {x : Str} {px : Pos} {i : Nat} {body : List Stmt} {I : Addr} {xs : List MV} {Sq : Heap → Heap → Locs → Prop} {It : Heap → Nat → Prop} {P : List MO → Prop} {B : S → (Fl → S → Prop) → Prop} {k : Fl → S → Prop} {Q : Flow → Shared → Prop} {Er : Value → Shared → Prop}
    (F : Frm c env names) (W : Wk c.prog c.w A I xs Sq It) (hS : ∀ g' h' ρ' m' σ', Sub g g' → ρ <+: ρ' → St c env names g' h' ρ' m' σ' → P σ'.obs → Sq g' h' ρ') (e : names[i]? = some x) (hk : env.kindOf x = some .local)
    (hB : SimS c env names n (execs body env) B) (hr : Rm A n) (X : St c env names g s.heap ρ m σ) (hI : It s.heap 0) (gI : g.get? I = none) (nI : I ∉ ρ.map (·.2)) (LI : I ≠ env.locals) (bI : c.g₀.get? I = none) (hv : forG i P B xs σ k)
    (ok : OkE c env names g ρ (fun g ρ x v => FlIs g ρ x v) k Q s) : codeAny (model c.prog c.w) A (.forLoop (.Name x px) (.ref I) body [] env) (fun r s' => match r with | .ok f => Q f s' | .error e => Er e s') s := by
  refine codeAny_forLoop (fun n' s' => ∃ σ' g' ρ' m' h' tk' j, n' = xs.length - j ∧ j ≤ xs.length ∧ Sub g g' ∧ ρ <+: ρ' ∧ St c env names g' h' ρ' m' σ' ∧ It h' j ∧ g'.get? I = none ∧ I ∉ ρ'.map (·.2) ∧ forG i P B (xs.drop j) σ' k ∧ s' = { s with heap := h', toks := tk' }) (fun n' s' hI => ?_) xs.length ⟨σ, g, ρ, m, s.heap, s.toks, 0, rfl, Nat.zero_le _, Sub.refl _, List.prefix_refl _, X, hI, gI, nI, by rw [List.drop_zero]; exact hv, rfl⟩
  obtain ⟨σ', g', ρ', m', h', tk', j, rfl, hj, sg, pg, X', hIt, gI', nI', hf, rfl⟩ := hI
  by_cases hlt : j < xs.length
  · have hx : xs[j]? = some xs[j] := List.getElem?_eq_getElem hlt
    rw [List.drop_eq_getElem_cons hlt] at hf
    obtain ⟨hP, hf⟩ := hf
    refine W.next _ { s with heap := h', toks := tk' } g' ρ' j _ _ hIt (hS g' h' ρ' m' σ' sg pg X' hP) hx fun h1 v t1 hIt1 hs1 hi => ?_
    have X1 := X'.moreBut (h' := h1) (I := I) (fun b o hne e => (hs1.2 b hne).trans e) gI' nI' LI
    obtain ⟨g2, s2, X2, ins⟩ := X1.freeze
    obtain ⟨oI, hoI, aI, cI⟩ := W.obj _ _ hIt1
    have g2I := ins _ _ hoI nI' LI
    refine wpAny_assign_Name (store_run (s := { s with heap := h1, toks := t1 }) (k := fun _ => True) F X2 e hk (hi.mono s2 (List.prefix_refl _)) fun m3 h3 t3 X3 => ?_)
    refine hB A _ _ g2 ρ' m3 { s with heap := h3, toks := t3 } _ _ hr hf X3 ?_
    intro f σ4 g4 ρ4 m4 v4 H4 t4 hk4 s4 p4 X4 i4
    have g4I := s4 _ _ g2I
    obtain ⟨X5, hI5⟩ := X4.thaw g4I aI cI bI
    have s5 : Sub g (g4.hide I) := fun b o e => (Heap.hide_ne _ fun z => by rw [z, gI] at e; cases e).trans ((sg.trans (s2.trans s4)) _ _ e)
    have hIt5 : It H4 (j + 1) := W.keep _ _ _ hIt1 fun o e => by
      rw [hoI] at e; cases e; exact X4.mem.keep _ _ g4I
    have n5 : I ∉ ρ4.map (·.2) := fun hm => by
      obtain ⟨p, hp, z⟩ := List.mem_map.mp hm
      have := X4.mem.cell p hp
      rw [z, g4I] at this; cases this
    cases i4 with
    | next => exact ⟨xs.length - (j + 1), by omega, σ4, _, ρ4, m4, H4, t4, j + 1, rfl, hlt, s5, pg.trans p4, X5, hIt5, Heap.hide_self _ _, n5, hk4, rfl⟩
    | cont => exact ⟨xs.length - (j + 1), by omega, σ4, _, ρ4, m4, H4, t4, j + 1, rfl, hlt, s5, pg.trans p4, X5, hIt5, Heap.hide_self _ _, n5, hk4, rfl⟩
    | brk => exact ok .next σ4 _ ρ4 m4 .next H4 t4 hk4 s5 (pg.trans p4) X5 .next
    | ret h => exact ok (.ret _) σ4 _ ρ4 m4 _ H4 t4 hk4 s5 (pg.trans p4) X5 (.ret (hI5 _ _ h))
  · have hj' : j = xs.length := by omega
    subst hj'
    rw [List.drop_length] at hf
    obtain ⟨hP, hf⟩ := hf
    refine W.fin _ { s with heap := h', toks := tk' } g' ρ' _ hIt (hS g' h' ρ' m' σ' sg pg X' hP) fun h1 hs1 => ?_
    have X1 := X'.moreBut (h' := h1) (I := I) (fun b o hne e => hs1 b o hne e) gI' nI' LI
    refine wpAny_execs_nil ?_
    exact ok .next σ' g' ρ' m' .next h1 tk' hf sg pg X1 .next

/-! ### the four things one walks over -/
theorem wk_tuple {A : Around} {I t : Addr} {xs : List MV} (hh : A.handled = none) : Wk c.prog c.w A I xs (fun g h ρ => Sub g h ∧ ∃ vs : List Value, g.IsTuple t vs.toArray ∧ IsAll g ρ xs vs) (fun h j => h.IsTupleIter I t j) where
  obj := fun h j ⟨o, ho, hc, hd⟩ => ⟨o, ho, .inr (.inl hc), fun v e => by rw [hd] at e; cases e⟩
  keep := fun h h' j ⟨o, ho, r⟩ k => ⟨o, k _ ho, r⟩
  next := fun E s g ρ j x Q hit ⟨sub, vs, ht, ha⟩ hx q => by
    obtain ⟨v, hv, hi⟩ := ha.get hx
    obtain ⟨o, ho, r⟩ := ht
    exact wpAny_pyNext_tuple_item hit ⟨o, sub _ _ ho, r⟩ (by simpa using hv) fun h' h1 h2 => q h' v s.toks h1 h2 hi
  fin := fun E s g ρ Q hit ⟨sub, vs, ht, ha⟩ q => by
    obtain ⟨o, ho, r⟩ := ht
    exact wpAny_pyNext_tuple_end hh hit ⟨o, sub _ _ ho, r⟩ (by simp [ha.length]) q

theorem wk_list {A : Around} {I t : Addr} {xs : List MV} (hh : A.handled = none) : Wk c.prog c.w A I xs (fun g h ρ => ∃ vs : List Value, h.IsList t vs.toArray ∧ IsAll g ρ xs vs) (fun h j => h.IsListIter I t j) where
  obj := fun h j ⟨o, ho, hc, hd⟩ => ⟨o, ho, .inr (.inr (.inl hc)), fun v e => by rw [hd] at e; cases e⟩
  keep := fun h h' j ⟨o, ho, r⟩ k => ⟨o, k _ ho, r⟩
  next := fun E s g ρ j x Q hit ⟨vs, ht, ha⟩ hx q => by
    obtain ⟨v, hv, hi⟩ := ha.get hx
    exact wpAny_pyNext_list_item hit ht (by simpa using hv) fun h' h1 h2 => q h' v s.toks h1 h2 hi
  fin := fun E s g ρ Q hit ⟨vs, ht, ha⟩ q => wpAny_pyNext_list_end hh hit ht (by simp [ha.length]) q

theorem wk_range {A : Around} {I : Addr} {a b st : Int} (hh : A.handled = none) (hsz : 0 ≤ Builtin.Range.rangeSize a b st) : Wk c.prog c.w A I (rangeItems a b st) (fun _ _ _ => True) (fun h j => IsRangeIter h I (a + j * st) (Builtin.Range.rangeSize a b st - j) st) where
  obj := fun h j ho => ⟨_, ho, .inr (.inr (.inr rfl)), fun v e => by cases e⟩
  keep := fun h h' j ho k => k _ ho
  next := fun E s g ρ j x Q hit _ hx q => by
    unfold rangeItems at hx
    rw [List.getElem?_map] at hx
    obtain ⟨k, hk, rfl⟩ := Option.map_eq_some_iff.mp hx
    obtain ⟨hlt, e⟩ := List.getElem?_eq_some_iff.mp hk
    rw [List.getElem_range] at e
    subst e
    rw [List.length_range] at hlt
    refine wpAny_pyNext_range_item hit (by omega) fun h' h1 h2 => q h' _ _ ?_ h2 (.int _ _)
    have e1 : a + (j : Int) * st + st = a + ((j + 1 : Nat) : Int) * st := by rw [Int.natCast_add, Int.add_mul]; simp [Int.add_assoc]
    have e2 : Builtin.Range.rangeSize a b st - (j : Int) - 1 = Builtin.Range.rangeSize a b st - ((j + 1 : Nat) : Int) := by omega
    rw [e1, e2] at h1; exact h1
  fin := fun E s g ρ Q hit _ q => by
    refine wpAny_pyNext_range_end hh hit ?_ q
    have : (rangeItems a b st).length = (Builtin.Range.rangeSize a b st).toNat := by unfold rangeItems; rw [List.length_map, List.length_range]
    rw [this]; omega

theorem size_nonneg (a b st : Int) : 0 ≤ Builtin.Range.rangeSize a b st := by
  unfold Builtin.Range.rangeSize
  split
  · split
    · have := Int.ediv_nonneg (a := b - a - 1) (b := st) (by omega) (by omega); omega
    · exact Int.le_refl _
  · split
    · have := Int.ediv_nonneg (a := a - b - 1) (b := -st) (by omega) (by omega); omega
    · exact Int.le_refl _

theorem sim_for {x : Str} {px pos : Pos} {i : Nat} {iter : Expr} {body : List Stmt} {e : ME} {a : MSs} (F : Frm c env names) (hi : names[i]? = some x) (hk : env.kindOf x = some .local) (hs : ∀ v, foldedSetIterable iter env v = pure v)
    (h0 : SimE c env names n (eval iter env) (evE G c.T e)) (h1 : SimS c env names n (execs body env) (evSs G c.T a)) : SimS c env names n (exec (.For (.Name x px) iter body [] pos) env) (evS G c.T (.forr i e a)) := by
  intro A σ k g ρ m s Q E hr hv X ok
  refine wpAny_For (h0 A σ _ g ρ m s _ E hr (by unfold evS at hv; exact hv) X ?_) hs
  intro v σ1 g1 ρ1 m1 v1 H1 t1 hk1 s1 p1 X1 i1
  have sz : ∀ {b o}, g1.get? b = some o → b ≠ H1.objs.size := fun e => Nat.ne_of_lt (Heap.lt_size (X1.mem.keep _ _ e))
  have gI : g1.get? H1.objs.size = none := by
    cases e : g1.get? H1.objs.size with
    | none => rfl
    | some o => exact absurd rfl (sz e)
  have nI : H1.objs.size ∉ ρ1.map (·.2) := fun hm => by
    obtain ⟨p, hp, z⟩ := List.mem_map.mp hm
    obtain ⟨ob, hob⟩ := X1.mem.there hp
    exact absurd (Heap.lt_size hob) (by rw [z]; exact Nat.lt_irrefl _)
  have LI : H1.objs.size ≠ env.locals := Ne.symm (Nat.ne_of_lt X1.ns.lt)
  have bI : c.g₀.get? H1.objs.size = none := by
    cases e : c.g₀.get? H1.objs.size with
    | none => rfl
    | some o => exact absurd rfl (sz (X1.mem.base _ _ e))
  have fin : ∀ (o : Obj), St c env names g1 (H1.push o) ρ1 m1 σ1 := fun o => X1.more (sub_push H1 o)
  have okk : ∀ (o : Obj), OkE c env names g1 ρ1 (fun g ρ x v => FlIs g ρ x v) k Q { s with heap := H1.push o, toks := t1 } := fun o f σ2 g2 ρ2 m2 v2 H2 t2 hk2 s2 p2 X2 i2 => ok f σ2 g2 ρ2 m2 v2 H2 t2 hk2 (s1.trans s2) (p1.trans p2) X2 i2
  cases v <;> first | exact hk1.elim | skip
  · cases i1 with
    | tup ht ha =>
      refine wpAny_pyIter_tuple (tup_in' X1.mem.keep ht) ?_
      refine for_run (s := { s with heap := H1.push _, toks := t1 }) F (wk_tuple hr.1) (fun g' h' ρ' m' σ' sg pg X' _ => ⟨X'.mem.keep, _, tup_in' sg ht, ha.mono sg pg⟩) hi hk h1 hr (fin _) ⟨_, Heap.get?_push_size _ rfl, rfl, rfl⟩ gI nI LI bI hk1 (okk _)
  · cases i1 with
    | flist ht ha =>
      refine wpAny_pyIter_list (list_in X1.mem.keep ht) ?_
      refine for_run (s := { s with heap := H1.push _, toks := t1 }) F (wk_list hr.1) (fun g' h' ρ' m' σ' sg pg X' _ => ⟨_, list_in (sg.trans X'.mem.keep) ht, ha.mono sg pg⟩) hi hk h1 hr (fin _) ⟨_, Heap.get?_push_size _ rfl, rfl, rfl⟩ gI nI LI bI hk1 (okk _)
  · cases i1 with
    | rng hrg =>
      rename_i a0 z0 c0 _ _ _ _
      obtain ⟨hsm, hk1⟩ := hk1
      refine wpAny_pyIter_range (X1.mem.keep _ _ hrg) hsm ?_
      refine for_run (s := { s with heap := H1.push _, toks := t1 }) F (wk_range hr.1 ?_) (fun _ _ _ _ _ _ _ _ _ => trivial) hi hk h1 hr (fin _) ?_ gI nI LI bI hk1 (okk _)
      · exact size_nonneg _ _ _
      · have := Heap.get?_push_size H1 (o := { cls := .type "range_iterator", data := .fields #[rawInt a0, rawInt (Builtin.Range.rangeSize a0 z0 c0), rawInt c0] }) rfl
        simpa [IsRangeIter] using this
  · have hk2 := need_some hk1
    clear hk1
    obtain ⟨ob, hob, hk1⟩ := hk2
    cases ob <;> first | exact hk1.elim | skip
    rename_i p xs
    obtain ⟨ad, d, rfl, hρ, e1, hz, ws, hl, hal⟩ := X1.mem.own i1 hob
    have e1 : ad = d := e1
    subst e1
    refine wpAny_pyIter_list hl.isList ?_
    refine for_run (s := { s with heap := H1.push _, toks := t1 }) F (wk_list hr.1) (fun g' h' ρ' m' σ' sg pg X' hP => ?_) hi hk h1 hr (fin _) ⟨_, Heap.get?_push_size _ rfl, rfl, rfl⟩ gI nI LI bI hk1 (okk _)
    obtain ⟨_, _, vs', hl', ha'⟩ := X'.mem.objs p _ _ hP (prefix_get pg hρ)
    exact ⟨vs', hl'.isList, ha'⟩

end
end Mine
end

section
open PySem PySem.W PyProof.Rows PySem.Calls
set_option Elab.async false
set_option maxRecDepth 100000
set_option linter.unusedVariables false
set_option linter.unusedSectionVars false

namespace Mine

mutual
theorem Is.plain {g : Heap} {ρ ρ' : Locs} : ∀ (x : MV) (v : Value), Is g ρ x v → pureV x = true → Is g ρ' x v
  | .none, _, _, e => nomatch e
  | .bool _, _, _, e => nomatch e
  | .int _, _, h, _ => by cases h; exact .int _ _
  | .str _, _, h, _ => by cases h; exact .str _ _
  | .tup xs, _, h, e => by
    unfold pureV at e
    cases h with
    | tup h r => exact .tup h (IsAll.plain xs _ r e)
  | .flist xs, _, h, e => by
    unfold pureV at e
    cases h with
    | flist h r => exact .flist h (IsAll.plain xs _ r e)
  | .rng _ _ _, _, _, e => nomatch e
  | .own _, _, _, e => nomatch e
theorem IsAll.plain {g : Heap} {ρ ρ' : Locs} : ∀ (x : List MV) (v : List Value), IsAll g ρ x v → pureVs x = true → IsAll g ρ' x v
  | [], _, h, _ => by cases h; exact .nil
  | x :: xs, _, h, e => by
    unfold pureVs at e
    rw [Bool.and_eq_true] at e
    cases h with
    | cons h r => exact .cons (Is.plain x _ h e.1) (IsAll.plain xs _ r e.2)
end

theorem seq_one {g : Heap} {a : Addr} {o o' : Obj} {vs us : List Value} {n n' : Nat} (h : g.get? a = some o) (h' : g.get? a = some o') (e : o.data = .seq vs.toArray n) (e' : o'.data = .seq us.toArray n') : vs = us := by
  rw [h] at h'; cases h'
  rw [e] at e'
  injection e' with e1 e2
  have := congrArg Array.toList e1; simpa using this

theorem tl_ne {g : Heap} {a : Addr} {vs us : List Value} (h : g.IsTuple a vs.toArray) (h2 : g.IsList a us.toArray) : False := by
  obtain ⟨o, ho, hc, n, hd⟩ := h
  obtain ⟨o2, ho2, hc2, n2, hd2⟩ := h2
  rw [ho] at ho2; cases ho2
  rw [hc] at hc2
  injection hc2 with hc2; exact absurd hc2 (by decide)
mutual
theorem Is.one {g : Heap} {ρ ρ' : Locs} : ∀ (x y : MV) (v : Value), Is g ρ x v → Is g ρ' y v → pureV x = true → pureV y = true → x = y
  | .none, _, _, _, _, e, _ => nomatch e
  | .bool _, _, _, _, _, e, _ => nomatch e
  | .int _, _, _, h, h', _, _ => by cases h; cases h'; rfl
  | .str _, _, _, h, h', _, _ => by cases h; cases h'; rfl
  | .tup xs, y, _, h, h', e, e' => by
    unfold pureV at e
    cases h with
    | tup h r =>
      cases h' with
      | tup h2 r2 =>
        unfold pureV at e'
        obtain ⟨o, ho, hc, n, hd⟩ := h
        obtain ⟨o2, ho2, hc2, n2, hd2⟩ := h2
        have := seq_one ho ho2 hd hd2
        subst this
        rw [IsAll.one xs _ _ r r2 e e']
      | flist h2 r2 => exact (tl_ne h h2).elim
      | rng _ => cases e'
      | own _ => cases e'
  | .flist xs, y, _, h, h', e, e' => by
    unfold pureV at e
    cases h with
    | flist h r =>
      cases h' with
      | flist h2 r2 =>
        unfold pureV at e'
        obtain ⟨o, ho, hc, n, hd⟩ := h
        obtain ⟨o2, ho2, hc2, n2, hd2⟩ := h2
        have := seq_one ho ho2 hd hd2
        subst this
        rw [IsAll.one xs _ _ r r2 e e']
      | tup h2 r2 => exact (tl_ne h2 h).elim
      | rng _ => cases e'
      | own _ => cases e'
  | .rng _ _ _, _, _, _, _, e, _ => nomatch e
  | .own _, _, _, _, _, e, _ => nomatch e
theorem IsAll.one {g : Heap} {ρ ρ' : Locs} : ∀ (x y : List MV) (v : List Value), IsAll g ρ x v → IsAll g ρ' y v → pureVs x = true → pureVs y = true → x = y
  | [], _, _, h, h', _, _ => by cases h; cases h'; rfl
  | x :: xs, _, _, h, h', e, e' => by
    cases h with
    | cons h r =>
      cases h' with
      | cons h2 r2 =>
        unfold pureVs at e e'
        rw [Bool.and_eq_true] at e e'
        rw [Is.one x _ _ h h2 e.1 e'.1, IsAll.one xs _ _ r r2 e.2 e'.2]
end

theorem pureVs_get : ∀ {xs : List MV} {i : Nat} {x : MV}, pureVs xs = true → xs[i]? = some x → pureV x = true
  | [], i, _, _, e => by simp at e
  | y :: r, 0, x, h, e => by
    unfold pureVs at h; rw [Bool.and_eq_true] at h
    simp at e; subst e; exact h.1
  | y :: r, i + 1, x, h, e => by
    unfold pureVs at h; rw [Bool.and_eq_true] at h
    exact pureVs_get h.2 (by simpa using e)

section
variable {c : Cfg} {env : Env} {names : List Str} {n : Nat} {G : Orc} {g g' h h' : Heap} {ρ : Locs} {O : List MO} {m : Str → Option Value} {σ : S}

theorem St.bind2 (X : St c env names g h ρ m σ) (F : Frm c env names) {i : Nat} {x : Str} {v : MV} {u : Value} (e : names[i]? = some x) (hk : env.kindOf x = some .local) (M' : Mem c g' h' ρ σ.obs) (s : Sub g g') (gL : g'.get? env.locals = none) (hu : Is g' ρ v u)
    (hn : h'.Ns env.locals (fun y => if y = x then some u else m y)) : St c env names g' h' ρ (fun y => if y = x then some u else m y) ⟨σ.loc.set i (some v), σ.obs⟩ := by
  refine ⟨M', hn, gL, X.neL, fun j y v' e1 e2 => ?_, by rw [List.length_set]; exact X.size⟩
  by_cases hj : i = j
  · subst hj
    rw [e] at e1; cases e1
    have hi : i < σ.loc.length := X.size ▸ (List.getElem?_eq_some_iff.mp e).1
    have e2' : (σ.loc.set i (some v))[i]? = some (some v') := e2
    rw [List.getElem?_set_self hi] at e2'; cases e2'
    exact ⟨u, hu, .inl ⟨hk, by simp⟩⟩
  · have e2' : (σ.loc.set i (some v))[j]? = some (some v') := e2
    rw [List.getElem?_set_ne hj] at e2'
    obtain ⟨u', hu', hk'⟩ := X.locs j y v' e1 e2'
    refine ⟨u', hu'.mono s (List.prefix_refl _), hk'.imp (fun ⟨a, b⟩ => ⟨a, ?_⟩) fun ⟨k, a, ob, e1, e2, e3⟩ => ⟨k, a, ob, e1, s _ _ e2, e3⟩⟩
    have hne : y ≠ x := fun z => hj (St.bind.nodup_getS F.nd e (z ▸ e1))
    simp [hne, b]

theorem paired_ints {φ : MV → Int} {gg gh : Heap} {ρ' ρh : Locs} (P : Value → Value → Prop) (hP : ∀ v y, P v y → ∃ (x : MV) (t : Tok), Is gh ρh x v ∧ pureV x = true ∧ y = Value.int (φ x) t) {xs : List MV} {vs ys : List Value} (pr : Paired P vs ys) (ha : IsAll gh ρh xs vs) (hp : pureVs xs = true) : IsAll gg ρ' (xs.map fun x => .int (φ x)) ys := by
  induction xs generalizing vs ys with
  | nil => cases ha; cases pr; exact .nil
  | cons x xs ih =>
    cases ha with
    | cons hi ha =>
    cases pr with
    | cons hf pr =>
    unfold pureVs at hp
    rw [Bool.and_eq_true] at hp
    obtain ⟨x', t, a1, a2, rfl⟩ := hP _ _ hf
    have := Is.one _ _ _ hi a1 hp.1 a2
    subst this
    exact .cons (.int _ _) (ih pr ha hp.2)

theorem get_eq {α : Type} {xs ys : List α} (hl : ys.length = xs.length) (h : ∀ (j : Nat) (v : α), ys[j]? = some v → xs[j]? = some v) : ys = xs := by
  apply List.ext_getElem? 
  intro j
  cases e : ys[j]? with
  | some v => exact (h j v e).symm
  | none =>
    have := List.getElem?_eq_none_iff.mp e
    exact (List.getElem?_eq_none_iff.mpr (by omega)).symm

theorem sim_mapf {fn x nm y : Str} {pf pa pb pc px py spos pos : Pos} {iter : Expr} {scope : Scope} {j i : Nat} {f : Addr} {e : ME} {cl : List (Str × Addr)} (C : c.Ok) (F : Frm c env names) (hO : OrcOk c n G) (hj : names[j]? = some y) (hi : names[i]? = some nm) (hy : env.kindOf y = some .local) (hnm : env.kindOf nm = some .cell)
    (hsw : swapsWith (.ListComp (.Call (.Name fn pf) [.Name x pa, .Name nm pb] [] pc) [⟨.Name x px, iter, [], 0⟩] scope pos) (some (.Name y py)) spos.line env = pure true)
    (hclos : closureFor scope env = pure cl) (hcl : cl.lookup nm = env.cells.lookup nm) (hcell : ∀ z ∈ scope.names, z.2 ≠ .cell) (hkind : scope.kind = .function)
    (hnames : ∀ z ∈ scope.names, z.2 = .local → scope.names.lookup z.1 = some .local) (hx : scope.names.lookup x = some .local)
    (kfn : ∀ C, (compEnvC scope cl C env).kindOf fn = some .globalImplicit) (kx : ∀ C, (compEnvC scope cl C env).kindOf x = some .local) (knm : ∀ C, (compEnvC scope cl C env).kindOf nm = some .cell)
    (eg : nsIn c.K mainGlobals fn = some (some (.ref f))) (hk : keepIn c.K (.ref f) = true) (d1 : (fn == ("__debug__" : Str)) = false) (d2 : (x == ("__debug__" : Str)) = false) (d3 : (nm == ("__debug__" : Str)) = false)
    (hs : ∀ v, foldedSetIterable iter env v = pure v)
    (h1 : SimE c env names n (eval iter env) (evE G c.T e)) :
    SimS c env names n (exec (.Assign [.Name y py] (.ListComp (.Call (.Name fn pf) [.Name x pa, .Name nm pb] [] pc) [⟨.Name x px, iter, [], 0⟩] scope pos) spos) env) (evS G c.T (.asg j (.mapf f e i))) := by
  intro A σ k g ρ m s Q E hr hv X ok
  rw [exec_Assign_Name_used _ _ _ _ hsw]
  refine wpAny_bind (wpAny_standAt (wpAny_bind ?_))
  refine wpAny_bind (wpAny_mono (wpAny_comprehension_free (use := some (assign (.Name y py) env)) (Q := fun _ s' => Q .next s') rfl hs hclos hkind hnames (h1 A σ _ g ρ m s _ E hr (by unfold evS evE at hv; exact hv) X ?_)) (fun _ s' hq => wpAny_pure (wpAny_pure hq)) fun _ _ e => e)
  intro v σ1 g1 ρ1 m1 v1 H1 t1 hk1 s1 p1 X1 i1
  cases v <;> first | exact hk1.elim | skip
  rename_i xs
  obtain ⟨hlen, hpure, hk1⟩ := hk1
  obtain ⟨o1, ho1, hk1⟩ := need_some hk1
  obtain ⟨yv, rfl, hk1⟩ := need_some hk1
  obtain ⟨hyp, φ, hφ, hk1⟩ := hk1
  cases i1 with
  | tup ht ha =>
    rename_i t vs
    have ltI : ∀ {b o}, H1.get? b = some o → b ≠ H1.objs.size := fun e => Nat.ne_of_lt (Heap.lt_size e)
    have ht1 : H1.IsTuple t vs.toArray := tup_in' X1.mem.keep ht
    have htl : t < H1.objs.size := by obtain ⟨o, ho, _⟩ := ht1; exact Heap.lt_size ho
    have hvl := ha.length
    obtain ⟨u, hu, hcu⟩ := X1.locs i nm yv hi ho1
    obtain ⟨ca, cob, hca, hcb, hcd⟩ : ∃ a ob, env.cells.lookup nm = some a ∧ g1.get? a = some ob ∧ ob.data = .cell (some u) := by
      rcases hcu with ⟨hl, _⟩ | ⟨_, h⟩
      · rw [hnm] at hl; cases hl
      · exact h
    refine wpAny_pyIter_tuple ht1 ?_
    refine comp_block_walkC (RR := fun acc C => compPost (model c.prog c.w) A E (some (assign (.Name y py) env)) (fun _ s' => Q .next s') acc C) (Walks.tuple hr.1 H1.objs.size t (Nat.ne_of_lt htl) vs.toArray) (by rw [List.size_toArray, ← hvl]; exact sizeLine_big (by omega)) (fun _ => true)
      (fun v y => ∃ (x : MV) (t : Tok), Is g1 ρ1 x v ∧ pureV x = true ∧ y = Value.int (φ x) t) hcell hkind hx ⟨⟨_, Heap.get?_push_size _ rfl, rfl, rfl⟩, ht1.push _⟩ (fun b hb => ?_) ⟨fun C' i' v s₃ m₃ E' _ _ _ _ _ _ => ?_, fun C' i' v s₃ m₃ E' _ hPv _ hn hm hkeep _ => ?_⟩ ?_
    · rw [Heap.size_push]
      rcases List.mem_cons.mp hb with rfl | hb
      · exact Nat.lt_succ_self _
      · rw [List.mem_singleton.mp hb]; exact Nat.lt_succ_of_lt htl
    · exact wpAny_pure ⟨rfl, s₃.heap, s₃.toks, rfl, fun _ _ e => e⟩
    · have Hs : ∀ b o, H1.get? b = some o → s₃.heap.get? b = some o := fun b o e => hkeep b o (by rw [List.mem_singleton]; exact ltI e) (Heap.get?_push_of_some _ e)
      have hPv' : vs[i']? = some v := by simpa using hPv
      obtain ⟨xi, hxi, hIx⟩ : ∃ xi, xs[i']? = some xi ∧ Is g1 ρ1 xi v := by
        have hil : i' < xs.length := by rw [hvl]; exact (List.getElem?_eq_some_iff.mp hPv').1
        obtain ⟨v', hv', hI⟩ := ha.get (List.getElem?_eq_getElem hil)
        rw [hPv'] at hv'; cases hv'
        exact ⟨_, List.getElem?_eq_getElem hil, hI⟩
      have hpx := pureVs_get hpure hxi
      have base3 : Sub c.g₀ s₃.heap := X1.mem.base.trans (X1.mem.keep.trans Hs)
      have hkd : (compEnvC scope cl C' env).scope.kind = .function := hkind
      refine Call_ (Name_function_global hkd (kfn C') (loadGlobal_global (env := compEnvC scope cl C' env) (by rw [show (compEnvC scope cl C' env).globals = mainGlobals from F.glob]; exact C.g.keeps base3) (mg_of C.kin C.g eg) ?_) d1)
      refine PySem.W.callWith_of (P := c.K.In) rfl (keeps_K hk) (evalArgs_of rfl ?_)
      refine wpAny_items_cons (wpAny_Name (wpAny_loadName_local hkd (kx C') hn hm ?_) d2) rfl
      refine wpAny_items_cons (wpAny_Name (wpAny_loadName_cell hkd (knm C') (hcl.trans hca) ⟨cob, Hs _ _ (X1.mem.keep _ _ hcb), hcd⟩ ?_) d3) rfl
      refine wpAny_items_nil ⟨C.kin.keeps base3, wpAny_call ?_⟩
      have s13 : Sub g1 s₃.heap := X1.mem.keep.trans Hs
      refine hO f [xi, yv] _ [] _ A s₃.heap [] s₃ _ (hφ xi (List.mem_of_getElem? hxi)) hr.c ⟨base3, Sub.refl _, rfl, fun _ h => (nomatch h), fun _ h => (nomatch h), List.nodup_nil, fun k o p e1 e2 => by simp at e1⟩ (.cons ((Is.plain _ _ hIx hpx).mono s13 (List.prefix_refl _)) (.cons ((Is.plain _ _ hu hyp).mono s13 (List.prefix_refl _)) .nil)) ?_ ?_
      · obtain ⟨oL, _, _, hoL, _⟩ := X1.ns
        exact Nat.le_of_lt (Nat.lt_of_le_of_lt F.above (Heap.lt_size (Hs _ _ hoL)))
      · intro r O' g' ρ' w' h' tk' hr' sg pg M' hi'
        subst hr'
        cases hi' with
        | int _ tt => exact ⟨⟨xi, tt, hIx, hpx, rfl⟩, h', tk', rfl, sg.trans M'.keep⟩
    · intro D C' h' tk m' ys vs' hD hC hDC hnC hlD hplD hlen' hP hF hkeep
      have Hs : ∀ b o, H1.get? b = some o → h'.get? b = some o := fun b o e => hkeep b o (by rw [List.mem_singleton]; exact ltI e) (Heap.get?_push_of_some _ e)
      obtain rfl : vs' = vs := get_eq (by simpa using hlen') fun j v e => by simpa using hP j v e
      rw [List.filter_eq_self.mpr fun _ _ => rfl] at hF
      have nof : ∀ {b}, (H1.push { cls := .type "tuple_iterator", data := .fields #[.ref t, .int 0 0] }).get? b = none → ∀ o, H1.get? b ≠ some o := fun hb o e => by rw [Heap.get?_push_of_some _ e] at hb; cases hb
      have LD : env.locals ≠ D := fun z => by obtain ⟨o, _, _, ho, _⟩ := X1.ns; exact nof hD o (z ▸ ho)
      have LC : env.locals ≠ C' := fun z => by obtain ⟨o, _, _, ho, _⟩ := X1.ns; exact nof hC o (z ▸ ho)
      show wpAny _ A (assign (.Name y py) env (.ref D)) _ _ _
      refine wpAny_assign_Name (wpAny_storeName_local hy (X1.ns.keeps Hs) (fun h₂ hn₂ hs₂ => ?_) (kindF F))
      refine ⟨m', hnC.sameBut hs₂ (Ne.symm LC), fun h₃ hs₃ => ?_⟩
      have up : ∀ b o, b ≠ env.locals → H1.get? b = some o → h₃.get? b = some o := fun b o hb e => hs₃.extBut b o (fun z => nof hC o (z ▸ e)) (hs₂.extBut b o hb (Hs b o e))
      have pl : h₃.PlainList D ys := (hplD.extBut hs₂.extBut (Ne.symm LD)).extBut hs₃.extBut hDC
      have cl : ∀ p ∈ ρ1, p.2 ≠ D := fun p hp z => by obtain ⟨ob, hob⟩ := X1.mem.there hp; exact nof hD ob (z ▸ hob)
      obtain ⟨g2, s2, M2, ins, out⟩ := X1.mem.grow (h' := h₃) (fun b o e => up b o (fun z => by rw [z, X1.gL] at e; cases e) (X1.mem.keep b o e)) (fun p hp o e => up _ _ (X1.neL p hp) e) [env.locals] (fun b hb => by rw [List.mem_singleton.mp hb]; exact X1.gL)
      obtain ⟨nn, hpl⟩ := pl
      have g2D := ins D _ hpl (fun hm => by obtain ⟨p, hp, z⟩ := List.mem_map.mp hm; exact cl p hp z) (fun hb => LD (List.mem_singleton.mp hb).symm)
      have X3 := X1.bind2 F hj hy (v := .flist (xs.map fun x => .int (φ x))) (u := .ref D) M2 s2 (out _ (.head _)) (.flist (vs := ys.toList) ⟨_, g2D, rfl, nn, rfl⟩ (paired_ints _ (fun v y h => h) hF ha hpure)) (hn₂.sameBut hs₃ LC)
      exact ok .next _ g2 ρ1 _ .next h₃ _ hk1 (s1.trans s2) p1 X3 .next

end
end Mine
end

section
open PySem PySem.W PyProof.Rows PySem.Calls
set_option Elab.async false
set_option maxRecDepth 100000
set_option linter.unusedVariables false
set_option linter.unusedSectionVars false

namespace Mine

section
variable {kd : Str → Option NameKind}
theorem bindL_out : ∀ {bs : List (Str × Value)} {m : Str → Option Value} {x : Str}, x ∉ bs.map (·.1) → bindL kd bs m x = m x
  | [], _, _, _ => rfl
  | (y, v) :: r, m, x, h => by
    rw [List.map_cons, List.mem_cons, not_or] at h
    unfold bindL
    rw [bindL_out h.2]
    split
    · exact if_neg h.1
    · rfl
theorem bindC_out : ∀ {bs : List (Str × Value)} {m : Str → Option Value} {x : Str}, x ∉ bs.map (·.1) → bindC kd bs m x = m x
  | [], _, _, _ => rfl
  | (y, v) :: r, m, x, h => by
    rw [List.map_cons, List.mem_cons, not_or] at h
    unfold bindC
    rw [bindC_out h.2]
    split
    · rfl
    · exact if_neg h.1
theorem bindL_in : ∀ {bs : List (Str × Value)} {m : Str → Option Value} {x : Str} {u : Value}, (bs.map (·.1)).Nodup → (x, u) ∈ bs → kd x = some .local → bindL kd bs m x = some u
  | (y, v) :: r, m, x, u, nd, h, hk => by
    rw [List.map_cons, List.nodup_cons] at nd
    unfold bindL
    rcases List.mem_cons.mp h with e | h
    · cases e
      rw [bindL_out nd.1, if_pos hk]; simp
    · exact bindL_in nd.2 h hk
theorem bindC_in : ∀ {bs : List (Str × Value)} {m : Str → Option Value} {x : Str} {u : Value}, (bs.map (·.1)).Nodup → (x, u) ∈ bs → kd x = some .cell → bindC kd bs m x = some u
  | (y, v) :: r, m, x, u, nd, h, hk => by
    rw [List.map_cons, List.nodup_cons] at nd
    unfold bindC
    rcases List.mem_cons.mp h with e | h
    · cases e
      rw [bindC_out nd.1, if_neg (by rw [hk]; decide)]; simp
    · exact bindC_in nd.2 h hk
end

structure FnIs (c : Cfg) (f : Addr) (d : Fun) (fd : FuncData) (body : List Stmt) (names : List Str) : Prop where
  obj : ∃ fo, c.K.lookup f = some fo ∧ fo.data = .func fd
  code : codeIn c.K fd.code fd.qualname = true
  bod : fd.body = .stmts body
  co : fd.scope.isCoroutine = false
  gen : fd.scope.isGenerator = false
  kind : fd.scope.kind = .function
  clos : fd.closure = []
  glob : fd.globals = mainGlobals
  blt : fd.builtins = builtinsNs
  nd : names.Nodup
  nloc : names.length = d.nloc
  npar : d.npar ≤ d.nloc
  kinds : ∀ x ∈ names, fd.scope.names.lookup x = some .local ∨ (fd.scope.names.lookup x = some .cell ∧ ∀ n, ((cellsFrom n fd.scope.names []).lookup x).isSome = true)
  bind : ∀ (s : Shared) (g : Heap) (ρ : Locs) (vs : List MV) (us : List Value), Sub g s.heap → Sub c.g₀ g → IsAll g ρ vs us → vs.length ≤ d.npar → d.npar ≤ vs.length + d.dflt.length →
    ∃ ws, BindsTo s fd ⟨us, []⟩ ((names.take d.npar).zip ws) ∧ IsAll g ρ (vs ++ d.dflt.drop (d.dflt.length - (d.npar - vs.length))) ws
  run : ∀ n G, OrcOk c n G → ∀ L, c.g₀.objs.size ≤ L → SimS c (callEnvC fd L f) names n (execs body (callEnvC fd L f)) (evSs G c.T d.body)

theorem fn_frm {c : Cfg} {f : Addr} {d : Fun} {fd : FuncData} {body : List Stmt} {names : List Str} (kind : fd.scope.kind = .function) (glob : fd.globals = mainGlobals) (blt : fd.builtins = builtinsNs) (nd : names.Nodup)
    (kinds : ∀ x ∈ names, fd.scope.names.lookup x = some .local ∨ fd.scope.names.lookup x = some .cell) {L : Addr} (hL : c.g₀.objs.size ≤ L) : Frm c (callEnvC fd L f) names :=
  ⟨kind, glob, blt, nd, kinds, hL⟩

theorem fn_call {c : Cfg} {n : Nat} {G : Orc} {f : Addr} {d : Fun} {fd : FuncData} {body : List Stmt} {names : List Str} (C : c.Ok) (hO : OrcOk c n G) (H : FnIs c f d fd body names)
    {vs : List MV} {us : List Value} {O : List MO} {k : MV → List MO → Prop} {A : Around} {g : Heap} {ρ : Locs} {s : Shared} {R : Result → Shared → Prop}
    (hv : runF G c.T d vs O k) (hr : RmC A (n + 1)) (M : Mem c g s.heap ρ O) (ha : IsAll g ρ vs us) (hsz : c.g₀.objs.size ≤ s.heap.objs.size)
    (q : ∀ (r : MV) (O' : List MO) (g' : Heap) (ρ' : Locs) (v : Value) (h' : Heap) (tk' : Nat), k r O' → Sub g g' → ρ <+: ρ' → Mem c g' h' ρ' O' → Is g' ρ' r v → R (.ok (.ret v)) { s with heap := h', toks := tk' }) :
    codeAny (model c.prog c.w) A (.call (.ref f) ⟨us, []⟩) R s := by
  obtain ⟨hl1, hl2, hv⟩ := hv
  obtain ⟨fo, hlk, hfd⟩ := H.obj
  have K1 : c.K.In s.heap := C.kin.keeps (M.base.trans M.keep)
  obtain ⟨ws, hb, ha'⟩ := H.bind s g ρ vs us M.keep M.base ha hl1 hl2
  have hvl : (vs ++ d.dflt.drop (d.dflt.length - (d.npar - vs.length))).length = d.npar := by rw [List.length_append, List.length_drop]; omega
  have hwl : ws.length = d.npar := by rw [← ha'.length]; exact hvl
  generalize hvs : vs ++ d.dflt.drop (d.dflt.length - (d.npar - vs.length)) = vs' at hv ha' hvl
  have htl : (names.take d.npar).length = d.npar := by rw [List.length_take, H.nloc]; have := H.npar; omega
  have hmap : ((names.take d.npar).zip ws).map (·.1) = names.take d.npar := List.map_fst_zip (by omega)
  have hndb : (((names.take d.npar).zip ws).map (·.1)).Nodup := by rw [hmap]; exact H.nd.sublist (List.take_sublist _ _)
  have hmem : ∀ x ∈ (names.take d.npar).zip ws, x.1 ∈ names := fun x hx => List.mem_of_mem_take (hmap ▸ List.mem_map_of_mem hx)
  refine codeAny_call_function (by have := hr.2.1; omega) (K1 _ _ hlk) hfd H.co H.gen H.bod (codeRec_of K1 H.code) (hb _ _ _ _ ?_)
  rw [H.clos]
  refine wpAny_newFunctionEnv_cells H.kind (fun x hx => ?_) fun env' he s' x => ?_
  · rcases H.kinds _ (hmem x hx) with h | ⟨h1, h2⟩
    · exact .inl h
    · exact .inr ⟨h1, h2 _⟩
  subst he
  have hk0 := x.toInCall.keep
  refine ⟨(C.nolimit.keeps (M.base.trans M.keep)).keeps hk0, codeAny_func ?_⟩
  obtain ⟨h₁, tk, rfl, _⟩ := x.done
  have hkc : ∀ p ∈ ρ, p.2 ≠ s.heap.objs.size := fun p hp e => by
    obtain ⟨ob, hob⟩ := M.there hp
    exact absurd (Heap.lt_size hob) (by rw [e]; exact Nat.lt_irrefl _)
  obtain ⟨g1, s1, M1, ins, out⟩ := M.grow (h' := h₁) (M.keep.trans hk0) (fun p _ o e => hk0 _ _ e) [s.heap.objs.size] (fun b hb => by
    rw [List.mem_singleton.mp hb]
    cases e : g.get? s.heap.objs.size with
    | none => rfl
    | some o => exact absurd (Heap.lt_size (M.keep _ _ e)) (Nat.lt_irrefl _))
  have X : St c (callEnvC fd s.heap.objs.size f) names g1 h₁ ρ (bindL (callEnvC fd s.heap.objs.size f).kindOf ((names.take d.npar).zip ws) fun _ => none) ⟨vs'.map some ++ List.replicate (d.nloc - d.npar) none, O⟩ := by
    refine ⟨M1, x.toInCall.ns, out _ (.head _), hkc, fun i y v e1 e2 => ?_, ?_⟩
    · have e2 : (vs'.map some ++ List.replicate (d.nloc - d.npar) none)[i]? = some (some v) := e2
      have hi : i < d.npar := by
        rcases Nat.lt_or_ge i d.npar with h | h
        · exact h
        · rw [List.getElem?_append_right (by rw [List.length_map, hvl]; exact h)] at e2
          rw [List.getElem?_replicate] at e2
          split at e2 <;> cases e2
      rw [List.getElem?_append_left (by rw [List.length_map, hvl]; exact hi), List.getElem?_map] at e2
      obtain ⟨v', e2, e3⟩ := Option.map_eq_some_iff.mp e2
      cases e3
      obtain ⟨u, hu, hI⟩ := ha'.get e2
      have hz : (y, u) ∈ (names.take d.npar).zip ws := by
        refine List.mem_of_getElem? (i := i) ?_
        rw [List.getElem?_zip_eq_some]
        exact ⟨by rw [List.getElem?_take, if_pos hi]; exact e1, hu⟩
      refine ⟨u, hI.mono s1 (List.prefix_refl _), ?_⟩
      rcases H.kinds y (List.mem_of_getElem? e1) with hk | ⟨hk, hc⟩
      · exact .inl ⟨hk, bindL_in hndb hz hk⟩
      · obtain ⟨ca, hca⟩ := Option.isSome_iff_exists.mp (hc (s.heap.objs.size + 1))
        obtain ⟨ob, hob, hod⟩ := x.cell y ca hca
        refine .inr ⟨hk, ca, ob, hca, ins _ _ hob (fun hm => ?_) (fun hm => ?_), ?_⟩
        · obtain ⟨p, hp, e⟩ := List.mem_map.mp hm
          obtain ⟨ob', hob'⟩ := M.there hp
          have := x.above y ca (mem_of_lookup hca)
          have l2 := Heap.lt_size hob'
          have : s.heap.objs.size < ca := this
          rw [e] at l2; exact absurd l2 (Nat.not_lt.mpr (Nat.le_of_lt this))
        · have : s.heap.objs.size < ca := x.above y ca (mem_of_lookup hca)
          rw [List.mem_singleton.mp hm] at this; exact absurd this (Nat.lt_irrefl _)
        · rw [hod]; exact congrArg _ (bindC_in (kd := (callEnvC fd s.heap.objs.size f).kindOf) hndb hz hk)
    · show (vs'.map some ++ List.replicate (d.nloc - d.npar) none).length = names.length
      rw [List.length_append, List.length_map, hvl, List.length_replicate, H.nloc]
      have := H.npar; omega
  refine H.run n G hO s.heap.objs.size hsz (A.deeper (callEnvC fd s.heap.objs.size f)) _ _ g1 ρ _ { s with heap := h₁, toks := tk } _ _ (hr.deeper _) hv X ?_
  intro fl σ' g2 ρ2 m2 fv h2 tk2 hk2 s2 p2 X2 i2
  cases i2 with
  | next => exact q _ _ g2 ρ2 _ h2 tk2 hk2 (s1.trans s2) p2 X2.mem .none
  | cont => exact hk2.elim
  | brk => exact hk2.elim
  | ret hi => exact q _ _ g2 ρ2 _ h2 tk2 hk2 (s1.trans s2) p2 X2.mem hi

theorem orc_gam {c : Cfg} {P : Nat → Option Fun} (C : c.Ok) (H : ∀ f d, P f = some d → ∃ fd body names, FnIs c f d fd body names) : ∀ n, OrcOk c n (gam P c.T n)
  | 0 => fun f vs us O k A g ρ s R hv _ _ _ _ _ => hv.elim
  | n + 1 => fun f vs us O k A g ρ s R hv hr M ha hsz q => by
    obtain ⟨d, hd, hv⟩ := need_some hv
    obtain ⟨fd, body, names, F⟩ := H f d hd
    exact fn_call C (orc_gam C H n) F hv hr M ha hsz q

end Mine
end

section
open PySem PySem.W PyProof.Rows PySem.Calls
set_option Elab.async false
set_option maxRecDepth 100000
set_option linter.unusedVariables false
set_option linter.unusedSectionVars false

namespace Mine

/-! ## from trees to the mini language -/
structure Ctx where
  K : Frag
  scope : Scope
  names : List Str
  attrs : List Str
  ini : Nat → Option Nat
  fl : Pos → Bool

noncomputable def idx (x : Str) : List Str → Option Nat
  | [] => none
  | y :: r => match decide (x = y) with
    | true => some 0
    | false => (idx x r).map (· + 1)
theorem idx_get {x : Str} : ∀ {l : List Str} {i : Nat}, idx x l = some i → l[i]? = some x
  | y :: r, i, h => by
    unfold idx at h
    split at h
    · rename_i e; cases h; rw [of_decide_eq_true e]; rfl
    · obtain ⟨j, hj, rfl⟩ := Option.map_eq_some_iff.mp h
      simpa using idx_get hj

noncomputable def gvs : List Value → Option (List MV)
  | [] => some []
  | .int i _ :: r => (gvs r).map (.int i :: ·)
  | .str x _ :: r => (gvs r).map (.str x :: ·)
  | _ => none
noncomputable def gv (K : Frag) : Value → Option MV
  | .int i _ => some (.int i)
  | .str x _ => some (.str x)
  | .ref a => match K.lookup a with
    | some ⟨.type n, _, .seq xs _, _⟩ => if n = "tuple" then (gvs xs.toList).map .tup else none
    | _ => none
  | _ => none

noncomputable def isDbg (x : Str) : Bool := x == ("__debug__" : Str)
noncomputable def knd (C : Ctx) (x : Str) : Option NameKind := C.scope.names.lookup x

noncomputable def cConst : Const → Option ME
  | .int i => some (.lit (.int i))
  | .str x => some (.lit (.str x))
  | .bool b => some (.lit (.bool b))
  | .none => some (.lit .none)
  | _ => none

noncomputable def cName (C : Ctx) (x : Str) : Option ME :=
  if isDbg x then none else match knd C x with
  | some .globalImplicit => (match nsIn C.K mainGlobals x with
    | some (some v) => (gv C.K v).map .lit
    | _ => none)
  | some _ => (idx x C.names).map .loc
  | none => none

noncomputable def isCall : Expr → Bool
  | .Call .. => true
  | _ => false
noncomputable def isSlice : Expr → Bool
  | .Slice .. => true
  | _ => false
noncomputable def isSet : Expr → Bool
  | .Set .. => true
  | _ => false
noncomputable def isStar : Expr → Bool
  | .Starred .. => true
  | _ => false
noncomputable def isComp : Expr → Bool
  | .ListComp .. => true
  | .SetComp .. => true
  | .DictComp .. => true
  | _ => false
noncomputable def isTuple : Expr → Bool
  | .Tuple .. => true
  | _ => false
noncomputable def isTest : Expr → Bool
  | .UnaryOp .Not _ _ => true
  | .BoolOp .. => true
  | .IfExp .. => true
  | .Compare .. => true
  | _ => false

noncomputable def cOp : Operator → Option BOp
  | .Add => some .add
  | .Sub => some .sub
  | .Mult => some .mul
  | .FloorDiv => some .fdiv
  | .Mod => some .mod
  | .Pow => some .pow
  | _ => none
noncomputable def cCop : CmpOp → Option COp
  | .Eq => some .eq
  | .NotEq => some .ne
  | .Lt => some .lt
  | .LtE => some .le
  | .Gt => some .gt
  | .GtE => some .ge
  | .In => some .isin
  | .NotIn => some .notin
  | .Is => some .isnone
  | _ => none

noncomputable def cEs (r : Expr → Option ME) : List Expr → Option MEs
  | [] => some .nil
  | e :: es => if isStar e then none else (r e).bind fun a => (cEs r es).map fun as => .cons a as
noncomputable def cTs (r : Expr → Option MT) : List Expr → Option MTs
  | [] => some .nil
  | e :: es => (r e).bind fun a => (cTs r es).map fun as => .cons a as

noncomputable def cPrim (f : Str) : Option Prim :=
  if f = Str.ofString "len" then some .len else if f = Str.ofString "abs" then some .abs else if f = Str.ofString "range" then some .range else if f = Str.ofString "list" then some .lst else none

noncomputable def cCall (C : Ctx) (rE : Expr → Option ME) (f : Str) (args : List Expr) : Option ME :=
  if isDbg f then none else (cEs rE args).bind fun as => match knd C f with
  | some .globalImplicit => (match nsIn C.K mainGlobals f with
    | some (some (.ref a)) => (match C.ini a with
      | some _ => some (.new a as)
      | none => if keepIn C.K (.ref a) then some (.callf a as) else none)
    | some none => (cPrim f).map fun p => .prim p as
    | _ => none)
  | _ => none

theorem none_ne {α : Type} {p : Prop} {a : α} (h : (none : Option α) = some a) : p := nomatch h
noncomputable def nameOf : Expr → Option (Str × Pos)
  | .Name x p => some (x, p)
  | _ => none
theorem nameOf_is {e : Expr} {x : Str × Pos} (h : nameOf e = some x) : e = .Name x.1 x.2 := by
  cases e with
  | Name y p => have h : some (y, p) = some x := h; cases h; rfl
  | _ => exact none_ne h
noncomputable def one {α : Type} : List α → Option α
  | [] => none
  | x :: r => match r with
    | [] => some x
    | _ :: _ => none
theorem one_is {α : Type} {l : List α} {x : α} (h : one l = some x) : l = [x] := by
  cases l with
  | nil => cases h
  | cons y r => cases r with
    | nil => cases h; rfl
    | cons => cases h
noncomputable def two {α : Type} : List α → Option (α × α)
  | [] => none
  | x :: r => (one r).map fun y => (x, y)
theorem two_is {α : Type} {l : List α} {x : α × α} (h : two l = some x) : l = [x.1, x.2] := by
  cases l with
  | nil => cases h
  | cons y r =>
    have h : (one r).map (fun z => (y, z)) = some x := h
    obtain ⟨z, hz, rfl⟩ := Option.map_eq_some_iff.mp h
    rw [one_is hz]
noncomputable def natC : Const → Option Nat
  | .int i => match i with
    | .ofNat b => some b
    | .negSucc _ => none
  | _ => none
noncomputable def natE : Expr → Option Nat
  | .Constant k _ _ => natC k
  | _ => none
theorem natE_is {e : Expr} {b : Nat} (h : natE e = some b) : ∃ u v, e = .Constant (.int (.ofNat b)) u v := by
  cases e with
  | Constant k u v =>
    have h : natC k = some b := h
    cases k with
    | int i => cases i with
      | ofNat m => have h : some m = some b := h; cases h; exact ⟨_, _, rfl⟩
      | negSucc m => exact none_ne h
    | _ => exact none_ne h
  | _ => exact none_ne h
noncomputable def sliceOf : Expr → Option Nat
  | .Slice lo hi st _ => if lo.isNone && st.isNone then hi.bind natE else none
  | _ => none
theorem sliceOf_is {i : Expr} {b : Nat} (h : sliceOf i = some b) : ∃ u v p, i = .Slice none (some (.Constant (.int (.ofNat b)) u v)) none p := by
  cases i with
  | Slice lo hi st p =>
    have h : (if lo.isNone && st.isNone then hi.bind natE else none) = some b := h
    split at h
    · rename_i e
      rw [Bool.and_eq_true, Option.isNone_iff_eq_none, Option.isNone_iff_eq_none] at e
      obtain ⟨rfl, rfl⟩ := e
      obtain ⟨x, rfl, hx⟩ := Option.bind_eq_some_iff.mp h
      obtain ⟨u, v, rfl⟩ := natE_is hx
      exact ⟨u, v, p, rfl⟩
    · cases h
  | _ => exact none_ne h

noncomputable def cSubs (C : Ctx) (rE : Expr → Option ME) (o i : Expr) : Option ME :=
  if isSlice i then (sliceOf i).bind fun b => (nameOf o).bind fun x => if isDbg x.1 then none else (idx x.1 C.names).map fun i => .slice (.loc i) b
  else (rE o).bind fun a => (rE i).map fun b => .sub a b
noncomputable def cUn (op : UnaryOp) (a : Option ME) : Option ME := match op with
  | .USub => a.map .neg
  | .Not => a.map .not
  | _ => none
noncomputable def isAnd : PySem.BoolOp → Bool
  | .And => true
  | .Or => false
noncomputable def cCallE (C : Ctx) (rE : Expr → Option ME) (f : Expr) (args : List Expr) (p : Pos) : Option ME := match f with
  | .Name f _ => cCall C rE f args
  | .Attribute o x ap => if isCall o || !(ap.endLine == p.line) || !(decide (args.length < 20)) then none else (rE o).bind fun a => (idx x C.attrs).bind fun i => (cEs rE args).map fun as => .callm a i as
  | _ => none

noncomputable def cE1 (C : Ctx) (rE : Expr → Option ME) (rT : Expr → Option MT) (e : Expr) : Option ME := match e with
  | .Constant k _ _ => cConst k
  | .Name x _ => cName C x
  | .Attribute o x _ => if isCall o then none else (rE o).bind fun a => (idx x C.attrs).map fun i => .attr a i
  | .Subscript o i _ => cSubs C rE o i
  | .Tuple es _ _ => (cEs rE es).map .tup
  | .List es p => (cEs rE es).map fun a => if C.fl p then .flist a else .list a
  | .Dict ks vs _ => if ks.isEmpty && vs.isEmpty then some .dict0 else none
  | .BinOp l op r _ => (cOp op).bind fun o => (rE l).bind fun a => (rE r).map fun b => .bin o a b
  | .UnaryOp op x _ => cUn op (rE x)
  | .Compare l ops rs _ => (one ops).bind fun op => (one rs).bind fun r => if isSet r then none else (cCop op).bind fun o => (rE l).bind fun a => (rE r).map fun b => .cmp o a b
  | .BoolOp op xs _ => if isAnd op then (two xs).bind fun p => (rE p.1).bind fun a => (rE p.2).map fun b => .and a b else none
  | .IfExp t x y _ => (rT t).bind fun c => (rE x).bind fun a => (rE y).map fun b => .ife c a b
  | .Call f args kws p => if kws.isEmpty then cCallE C rE f args p else none
  | _ => none

noncomputable def isNot : UnaryOp → Bool
  | .Not => true
  | _ => false
noncomputable def cT1 (C : Ctx) (rE : Expr → Option ME) (rT : Expr → Option MT) (e : Expr) : Option MT := match e with
  | .UnaryOp op x p => if isNot op then (rT x).map .not else (rE (.UnaryOp op x p)).map .val
  | .BoolOp op xs _ => if isAnd op then (cTs rT xs).map .and else (cTs rT xs).map .or
  | .Compare l ops rs _ => (one ops).bind fun op => (one rs).bind fun r => if isSet r then none else (cCop op).bind fun o => (rE l).bind fun a => (rE r).map fun b => .val (.cmp o a b)
  | e => if isTest e then none else (rE e).map .val

noncomputable def cET (C : Ctx) : Nat → (Expr → Option ME) × (Expr → Option MT)
  | 0 => (fun _ => none, fun _ => none)
  | n + 1 => (cE1 C (cET C n).1 (cET C n).2, cT1 C (cET C n).1 (cET C n).2)

structure CtxOk (c : Cfg) (C : Ctx) (env : Env) : Prop where
  frm : Frm c env C.names
  K : C.K = c.K
  scope : env.scope = C.scope
  attrs : C.attrs = c.attrs
  ini : C.ini = c.T.ini
  blt : bltAttrs c.attrs
  cells : ∀ x, C.scope.names.lookup x = some .cell → (env.cells.lookup x).isSome = true

section
variable {c : Cfg} {C : Ctx} {env : Env} {n : Nat} {G : Orc}

noncomputable def SoundE (c : Cfg) (C : Ctx) (env : Env) (n : Nat) (G : Orc) (r : Expr → Option ME) : Prop := ∀ e a, r e = some a → SimE c env C.names n (eval e env) (evE G c.T a)
noncomputable def SoundT (c : Cfg) (C : Ctx) (env : Env) (n : Nat) (G : Orc) (r : Expr → Option MT) : Prop := ∀ e a, r e = some a → SimT c env C.names n (isTrue e env (eval e env)) (evT G c.T a)

theorem gvs_is {g : Heap} {ρ : Locs} : ∀ {vs : List Value} {xs : List MV}, gvs vs = some xs → IsAll g ρ xs vs
  | [], _, h => by cases h; exact .nil
  | v :: r, xs, h => by
    cases v <;> first | cases h | skip
    · have h' : (gvs r).map (MV.int _ :: ·) = some xs := h
      obtain ⟨ys, hy, rfl⟩ := Option.map_eq_some_iff.mp h'
      exact .cons (.int _ _) (gvs_is hy)
    · have h' : (gvs r).map (MV.str _ :: ·) = some xs := h
      obtain ⟨ys, hy, rfl⟩ := Option.map_eq_some_iff.mp h'
      exact .cons (.str _ _) (gvs_is hy)

theorem gv_is (O : c.Ok) {v : Value} {x : MV} (h : gv c.K v = some x) : Is c.g₀ [] x v := by
  unfold gv at h
  split at h
  · cases h; exact .int _ _
  · cases h; exact .str _ _
  · split at h
    · rename_i a nm dd xs nn ss hl
      split at h
      · rename_i e
        subst e
        obtain ⟨ys, hy, rfl⟩ := Option.map_eq_some_iff.mp h
        exact .tup (vs := xs.toList) ⟨_, O.kin _ _ hl, rfl, _, rfl⟩ (gvs_is hy)
      · cases h
    · cases h
  · cases h

theorem nodbg {x : Str} (h : ¬ isDbg x = true) : (x == ("__debug__" : Str)) = false := by
  unfold isDbg at h; exact Bool.not_eq_true _ ▸ h

theorem kof (X : CtxOk c C env) (x : Str) : env.kindOf x = knd C x := by
  show env.scope.names.lookup x = _
  rw [X.scope]; rfl

theorem cName_sound (O : c.Ok) (X : CtxOk c C env) {x : Str} {pos : Pos} {a : ME} (h : cName C x = some a) : SimE c env C.names n (eval (.Name x pos) env) (evE G c.T a) := by
  unfold cName at h
  split at h
  · cases h
  · rename_i hd
    split at h
    · rename_i hk
      split at h
      · rename_i v hn
        obtain ⟨y, hy, rfl⟩ := Option.map_eq_some_iff.mp h
        exact sim_glob O X.frm ((kof X x).trans hk) (X.K ▸ hn) (gv_is O (X.K ▸ hy)) (nodbg hd)
      · cases h
    · obtain ⟨i, hi, rfl⟩ := Option.map_eq_some_iff.mp h
      exact sim_loc X.frm (idx_get hi) (nodbg hd)
    · cases h

theorem cEs_star {r : Expr → Option ME} {pos : Pos} : ∀ {es : List Expr} {as : MEs}, cEs r es = some as → (backTo pos (starEach es env)).any (·.1) = false
  | [], _, _ => rfl
  | e :: es, as, h => by
    unfold cEs at h
    split at h
    · cases h
    · rename_i hs
      obtain ⟨a, ha, h⟩ := Option.bind_eq_some_iff.mp h
      obtain ⟨as', has, rfl⟩ := Option.map_eq_some_iff.mp h
      have ih := cEs_star (pos := pos) has
      cases e <;> first | exact absurd rfl hs | exact ih

theorem cEs_sound {r : Expr → Option ME} {pos : Pos} (hE : SoundE c C env n G r) : ∀ {es : List Expr} {as : MEs}, cEs r es = some as → SimEs c env C.names n (spliced (backTo pos (starEach es env))) (evEs G c.T as)
  | [], _, h => by cases h; exact sims_nil
  | e :: es, as, h => by
    unfold cEs at h
    split at h
    · cases h
    · rename_i hs
      obtain ⟨a, ha, h⟩ := Option.bind_eq_some_iff.mp h
      obtain ⟨as', has, rfl⟩ := Option.map_eq_some_iff.mp h
      exact sims_cons (by cases e <;> first | exact absurd rfl hs | rfl) (hE _ _ ha) (cEs_sound hE has)

theorem cTs_or {r : Expr → Option MT} (hT : SoundT c C env n G r) : ∀ {es : List Expr} {as : MTs}, cTs r es = some as → SimT c env C.names n (allTrue .Or es env) (evO G c.T as)
  | [], _, h => by cases h; exact simO_nil
  | e :: es, as, h => by
    unfold cTs at h
    obtain ⟨a, ha, h⟩ := Option.bind_eq_some_iff.mp h
    obtain ⟨as', has, rfl⟩ := Option.map_eq_some_iff.mp h
    exact simO_cons (hT _ _ ha) (cTs_or hT has)
theorem cTs_and {r : Expr → Option MT} (hT : SoundT c C env n G r) : ∀ {es : List Expr} {as : MTs}, cTs r es = some as → SimT c env C.names n (allTrue .And es env) (evA G c.T as)
  | [], _, h => by cases h; exact simA_nil
  | e :: es, as, h => by
    unfold cTs at h
    obtain ⟨a, ha, h⟩ := Option.bind_eq_some_iff.mp h
    obtain ⟨as', has, rfl⟩ := Option.map_eq_some_iff.mp h
    exact simA_cons (hT _ _ ha) (cTs_and hT has)

theorem cCop_of {op : CmpOp} {o : COp} (h : cCop op = some o) : copOf o = op := by
  cases op <;> cases h <;> rfl

theorem cCall_sound (O : c.Ok) (X : CtxOk c C env) (hO : OrcOk c n G) {rE : Expr → Option ME} (hE : SoundE c C env n G rE) {f : Str} {pf pos : Pos} {args : List Expr} {a : ME} (h : cCall C rE f args = some a) : SimE c env C.names n (eval (.Call (.Name f pf) args [] pos) env) (evE G c.T a) := by
  unfold cCall at h
  split at h
  · cases h
  · rename_i hd
    obtain ⟨as, has, h⟩ := Option.bind_eq_some_iff.mp h
    split at h
    · rename_i hk
      have hk' := (kof X f).trans hk
      split at h
      · rename_i ad hn
        rw [X.K] at hn
        split at h
        · rename_i fi hf
          cases h
          rw [X.ini] at hf
          exact sim_new O X.frm hO hk' hn hf (nodbg hd) (cEs_star has) (cEs_sound hE has)
        · split at h
          · rename_i hkp
            cases h
            exact sim_callf O X.frm hO hk' hn (X.K ▸ hkp) (nodbg hd) (cEs_star has) (cEs_sound hE has)
          · cases h
      · rename_i hn
        rw [X.K] at hn
        obtain ⟨p, hp, rfl⟩ := Option.map_eq_some_iff.mp h
        unfold cPrim at hp
        split at hp
        · rename_i e; subst e; cases hp
          exact sim_len O X.frm hk' hn rfl (by decide) (nodbg hd) (cEs_star has) (cEs_sound hE has)
        · split at hp
          · rename_i e; subst e; cases hp
            exact sim_abs O X.frm hk' hn rfl (by decide) (nodbg hd) (cEs_star has) (cEs_sound hE has)
          · split at hp
            · rename_i e; subst e; cases hp
              exact sim_range O X.frm hk' hn rfl (by decide) (nodbg hd) (cEs_star has) (cEs_sound hE has)
            · split at hp
              · rename_i e; subst e; cases hp
                exact sim_lst O X.frm hk' hn rfl (by decide) (nodbg hd) (cEs_star has) (cEs_sound hE has)
              · cases hp
      · cases h
    · cases h

theorem few_of {pos : Pos} : ∀ {l : List (Bool × Sem Value)} {m : Nat}, l.any (·.1) = false → m < 20 → methodCallForm (m + ([] : List Keyword).length) l (backToKw pos (keywordEach [] env)) = true := by
  intro l m h hm
  unfold methodCallForm
  have : l.all (fun x => !x.1) = true := by
    rw [List.all_eq_true]
    intro x hx
    rw [List.any_eq_false] at h
    have := h x hx
    simpa using this
  rw [this]
  show (true && true && decide (m + 0 + 0 < 30)) = true
  simp; omega

theorem cCallE_sound (O : c.Ok) (X : CtxOk c C env) (hO : OrcOk c n G) {rE : Expr → Option ME} (hE : SoundE c C env n G rE) {f : Expr} {args : List Expr} {p : Pos} {a : ME} (h : cCallE C rE f args p = some a) : SimE c env C.names n (eval (.Call f args [] p) env) (evE G c.T a) := by
  cases f with
  | Name f pf => exact cCall_sound O X hO hE h
  | Attribute o x ap =>
    have h : (if isCall o || !(ap.endLine == p.line) || !(decide (args.length < 20)) then none else (rE o).bind fun a => (idx x C.attrs).bind fun i => (cEs rE args).map fun as => ME.callm a i as) = some a := h
    split at h
    · cases h
    · rename_i hc
      rw [Bool.or_eq_true, Bool.or_eq_true, not_or, not_or, Bool.not_eq_true', Bool.not_eq_true', Bool.not_eq_false, Bool.not_eq_false] at hc
      obtain ⟨⟨hc1, hc2⟩, hc3⟩ := hc
      obtain ⟨a1, h1, h⟩ := Option.bind_eq_some_iff.mp h
      obtain ⟨i, hi, h⟩ := Option.bind_eq_some_iff.mp h
      obtain ⟨as, has, rfl⟩ := Option.map_eq_some_iff.mp h
      exact sim_callm O X.blt X.frm hO (X.attrs ▸ idx_get hi) (by cases o <;> first | exact absurd rfl hc1 | rfl) (few_of (cEs_star has) (of_decide_eq_true hc3)) hc2 (cEs_star has) (hE _ _ h1) (cEs_sound hE has)
  | _ => exact none_ne h

theorem cE1_sound (O : c.Ok) (X : CtxOk c C env) (hO : OrcOk c n G) {rE : Expr → Option ME} {rT : Expr → Option MT} (hE : SoundE c C env n G rE) (hT : SoundT c C env n G rT) : SoundE c C env n G (cE1 C rE rT) := by
  intro e a h
  cases e with
  | Constant k _ _ =>
    have h : cConst k = some a := h
    cases k <;> cases h
    · exact sim_none
    · exact sim_bool
    · exact sim_int
    · exact sim_str
  | Name x _ => exact cName_sound O X h
  | Attribute o x p =>
    have h : (if isCall o then none else (rE o).bind fun a => (idx x C.attrs).map fun i => ME.attr a i) = some a := h
    split at h
    · cases h
    · rename_i hc
      obtain ⟨a1, h1, h⟩ := Option.bind_eq_some_iff.mp h
      obtain ⟨i, hi, rfl⟩ := Option.map_eq_some_iff.mp h
      exact sim_attr O (X.attrs ▸ idx_get hi) (by cases o <;> first | exact absurd rfl hc | rfl) (hE _ _ h1)
  | Subscript o i p =>
    have h : (if isSlice i then (sliceOf i).bind fun b => (nameOf o).bind fun x => if isDbg x.1 then none else (idx x.1 C.names).map fun i => ME.slice (.loc i) b
      else (rE o).bind fun a => (rE i).map fun b => ME.sub a b) = some a := h
    split at h
    · obtain ⟨b, hb, h⟩ := Option.bind_eq_some_iff.mp h
      obtain ⟨x, hx, h⟩ := Option.bind_eq_some_iff.mp h
      split at h
      · cases h
      · rename_i hd
        obtain ⟨j, hj, rfl⟩ := Option.map_eq_some_iff.mp h
        obtain ⟨u, v, q, rfl⟩ := sliceOf_is hb
        obtain rfl := nameOf_is hx
        exact sim_slice X.frm (idx_get hj) (nodbg hd)
    · rename_i hs
      obtain ⟨a1, h1, h⟩ := Option.bind_eq_some_iff.mp h
      obtain ⟨a2, h2, rfl⟩ := Option.map_eq_some_iff.mp h
      exact sim_sub O (by intro x y; cases i <;> first | exact absurd rfl hs | rfl) (hE _ _ h1) (hE _ _ h2)
  | Tuple es _ _ =>
    have h : (cEs rE es).map ME.tup = some a := h
    obtain ⟨as, has, rfl⟩ := Option.map_eq_some_iff.mp h
    exact sim_tup (cEs_sound hE has)
  | List es p =>
    have h : ((cEs rE es).map fun a => if C.fl p then ME.flist a else ME.list a) = some a := h
    obtain ⟨as, has, h⟩ := Option.map_eq_some_iff.mp h
    split at h
    · subst h; exact sim_flist (cEs_sound hE has)
    · subst h; exact sim_list X.frm (cEs_sound hE has)
  | Dict ks vs p =>
    have h : (if ks.isEmpty && vs.isEmpty then some ME.dict0 else none) = some a := h
    split at h
    · rename_i e
      rw [Bool.and_eq_true, List.isEmpty_iff, List.isEmpty_iff] at e
      obtain ⟨rfl, rfl⟩ := e
      cases h; exact sim_dict0 X.frm rfl
    · cases h
  | BinOp l op r p =>
    have h : ((cOp op).bind fun o => (rE l).bind fun a => (rE r).map fun b => ME.bin o a b) = some a := h
    obtain ⟨o, ho, h⟩ := Option.bind_eq_some_iff.mp h
    obtain ⟨a1, h1, h⟩ := Option.bind_eq_some_iff.mp h
    obtain ⟨a2, h2, rfl⟩ := Option.map_eq_some_iff.mp h
    cases op <;> cases ho
    · exact sim_bin (hE _ _ h1) (hE _ _ h2) fun A s x y t u k Q E hr hv q => op_add hr hv q
    · exact sim_bin (hE _ _ h1) (hE _ _ h2) fun A s x y t u k Q E hr hv q => op_sub hr hv q
    · exact sim_bin (hE _ _ h1) (hE _ _ h2) fun A s x y t u k Q E hr hv q => op_mul hr hv q
    · exact sim_bin (hE _ _ h1) (hE _ _ h2) fun A s x y t u k Q E hr hv q => op_mod hr hv q
    · exact sim_bin (hE _ _ h1) (hE _ _ h2) fun A s x y t u k Q E hr hv q => op_pow hr hv q
    · exact sim_bin (hE _ _ h1) (hE _ _ h2) fun A s x y t u k Q E hr hv q => op_fdiv hr hv q
  | UnaryOp op x p =>
    cases op with
    | USub =>
      have h : (rE x).map ME.neg = some a := h
      obtain ⟨a1, h1, rfl⟩ := Option.map_eq_some_iff.mp h
      exact sim_neg (hE _ _ h1)
    | Not =>
      have h : (rE x).map ME.not = some a := h
      obtain ⟨a1, h1, rfl⟩ := Option.map_eq_some_iff.mp h
      exact sim_not (hE _ _ h1)
    | _ => exact none_ne h
  | Compare l ops rs p =>
    have h : ((one ops).bind fun op => (one rs).bind fun r => if isSet r then none else (cCop op).bind fun o => (rE l).bind fun a => (rE r).map fun b => ME.cmp o a b) = some a := h
    obtain ⟨op, hop, h⟩ := Option.bind_eq_some_iff.mp h
    obtain ⟨r, hr, h⟩ := Option.bind_eq_some_iff.mp h
    split at h
    · cases h
    · rename_i hs
      obtain ⟨o, ho, h⟩ := Option.bind_eq_some_iff.mp h
      obtain ⟨a1, h1, h⟩ := Option.bind_eq_some_iff.mp h
      obtain ⟨a2, h2, rfl⟩ := Option.map_eq_some_iff.mp h
      obtain rfl := cCop_of ho
      obtain rfl := one_is hop
      obtain rfl := one_is hr
      exact sim_cmp O (by cases r <;> first | exact absurd rfl hs | rfl) (hE _ _ h1) (hE _ _ h2)
  | BoolOp op xs p =>
    cases op with
    | Or => exact none_ne h
    | And =>
      have h : ((two xs).bind fun p => (rE p.1).bind fun a => (rE p.2).map fun b => ME.and a b) = some a := h
      obtain ⟨q, hq, h⟩ := Option.bind_eq_some_iff.mp h
      obtain ⟨a1, h1, h⟩ := Option.bind_eq_some_iff.mp h
      obtain ⟨a2, h2, rfl⟩ := Option.map_eq_some_iff.mp h
      obtain rfl := two_is hq
      exact sim_and (hE _ _ h1) (hE _ _ h2)
  | IfExp t x y p =>
    have h : ((rT t).bind fun c => (rE x).bind fun a => (rE y).map fun b => ME.ife c a b) = some a := h
    obtain ⟨t1, ht, h⟩ := Option.bind_eq_some_iff.mp h
    obtain ⟨a1, h1, h⟩ := Option.bind_eq_some_iff.mp h
    obtain ⟨a2, h2, rfl⟩ := Option.map_eq_some_iff.mp h
    exact sim_ife (hT _ _ ht) (hE _ _ h1) (hE _ _ h2)
  | Call f args kws p =>
    have h : (if kws.isEmpty then cCallE C rE f args p else none) = some a := h
    split at h
    · rename_i e
      rw [List.isEmpty_iff] at e
      subst e
      exact cCallE_sound O X hO hE h
    · cases h
  | _ => exact none_ne h

theorem val_of : ∀ {x : Expr}, ¬ isTest x = true → isTrue x env (eval x env) = (do let v ← eval x env; standAt x.pos; holding [v] (truthy v)) := by
  intro x hs
  cases x with
  | UnaryOp op y p => cases op <;> first | exact absurd rfl hs | rfl
  | _ => first | exact absurd rfl hs | rfl

theorem cT1_sound (O : c.Ok) (X : CtxOk c C env) {rE : Expr → Option ME} {rT : Expr → Option MT} (hE : SoundE c C env n G rE) (hT : SoundT c C env n G rT) : SoundT c C env n G (cT1 C rE rT) := by
  intro e a h
  have dflt : ¬ isTest e = true → (if isTest e then none else (rE e).map MT.val) = some a → SimT c env C.names n (isTrue e env (eval e env)) (evT G c.T a) := fun hs h => by
    rw [if_neg hs] at h
    obtain ⟨a1, h1, rfl⟩ := Option.map_eq_some_iff.mp h
    exact simT_val (val_of hs) (hE _ _ h1)
  cases e with
  | UnaryOp op x p =>
    cases op with
    | Not =>
      have h : (rT x).map MT.not = some a := h
      obtain ⟨a1, h1, rfl⟩ := Option.map_eq_some_iff.mp h
      exact simT_not (hT _ _ h1)
    | _ => exact dflt (by intro z; cases z) h
  | BoolOp op xs p =>
    cases op with
    | Or =>
      have h : (cTs rT xs).map MT.or = some a := h
      obtain ⟨a1, h1, rfl⟩ := Option.map_eq_some_iff.mp h
      exact simT_or (cTs_or hT h1)
    | And =>
      have h : (cTs rT xs).map MT.and = some a := h
      obtain ⟨a1, h1, rfl⟩ := Option.map_eq_some_iff.mp h
      exact simT_and (cTs_and hT h1)
  | Compare l ops rs p =>
    have h : ((one ops).bind fun op => (one rs).bind fun r => if isSet r then none else (cCop op).bind fun o => (rE l).bind fun a => (rE r).map fun b => MT.val (.cmp o a b)) = some a := h
    obtain ⟨op, hop, h⟩ := Option.bind_eq_some_iff.mp h
    obtain ⟨r, hr, h⟩ := Option.bind_eq_some_iff.mp h
    split at h
    · cases h
    · rename_i hs
      obtain ⟨o, ho, h⟩ := Option.bind_eq_some_iff.mp h
      obtain ⟨a1, h1, h⟩ := Option.bind_eq_some_iff.mp h
      obtain ⟨a2, h2, rfl⟩ := Option.map_eq_some_iff.mp h
      obtain rfl := cCop_of ho
      obtain rfl := one_is hop
      obtain rfl := one_is hr
      exact simT_cmp O (by cases r <;> first | exact absurd rfl hs | rfl) (hE _ _ h1) (hE _ _ h2)
  | IfExp => exact none_ne h
  | _ => exact dflt (by intro z; cases z) h

theorem cET_sound (O : c.Ok) (X : CtxOk c C env) (hO : OrcOk c n G) : ∀ m, SoundE c C env n G (cET C m).1 ∧ SoundT c C env n G (cET C m).2
  | 0 => ⟨fun _ _ h => (nomatch h), fun _ _ h => (nomatch h)⟩
  | m + 1 => ⟨cE1_sound O X hO (cET_sound O X hO m).1 (cET_sound O X hO m).2, cT1_sound O X (cET_sound O X hO m).1 (cET_sound O X hO m).2⟩

end
end Mine
end

section
open PySem PySem.W PyProof.Rows PySem.Calls
set_option Elab.async false
set_option maxRecDepth 100000
set_option linter.unusedVariables false
set_option linter.unusedSectionVars false

namespace Mine

/-- the slot of a name that may be bound -/
noncomputable def slotL (C : Ctx) (x : Str) : Option Nat := match knd C x with
  | some .local => idx x C.names
  | _ => none

/-- the four names of a list comprehension's scope -/
noncomputable def four (l : List (Str × NameKind)) : Option (Str × Str × Str × Str) := match l with
  | [] => none
  | a :: l => match l with
    | [] => none
    | b :: l => match l with
      | [] => none
      | c :: l => (one l).bind fun d => if decide (a.2 = .local) && decide (b.2 = .local) && decide (c.2 = .globalImplicit) && decide (d.2 = .free) then some (a.1, b.1, c.1, d.1) else none
theorem four_is {l : List (Str × NameKind)} {x : Str × Str × Str × Str} (h : four l = some x) : l = [(x.1, .local), (x.2.1, .local), (x.2.2.1, .globalImplicit), (x.2.2.2, .free)] := by
  match l with
  | [] => cases h
  | [_] => cases h
  | [_, _] => cases h
  | a :: b :: c :: r =>
    have h : ((one r).bind fun d => if decide (a.2 = .local) && decide (b.2 = .local) && decide (c.2 = .globalImplicit) && decide (d.2 = .free) then some (a.1, b.1, c.1, d.1) else none) = some x := h
    obtain ⟨d, hd, h⟩ := Option.bind_eq_some_iff.mp h
    rw [one_is hd]
    obtain ⟨a1, a2⟩ := a
    obtain ⟨b1, b2⟩ := b
    obtain ⟨c1, c2⟩ := c
    obtain ⟨d1, d2⟩ := d
    split at h
    · rename_i e
      simp only [Bool.and_eq_true, decide_eq_true_eq] at e
      obtain ⟨⟨⟨e1, e2⟩, e3⟩, e4⟩ := e
      have h := Option.some.inj h
      subst h e1 e2 e3 e4
      rfl
    · cases h

noncomputable def cMapf (C : Ctx) (rE : Expr → Option ME) (y : Str) (py : Pos) (fn x nm x' : Str) (iter : Expr) (scope : Scope) (pos : Pos) : Option MS :=
  (four scope.names).bind fun q =>
    if decide (x = x') && decide (x = q.2.1) && decide (fn = q.2.2.1) && decide (nm = q.2.2.2) && !(decide (q.1 = x)) && !(decide (q.1 = fn)) && !(decide (q.1 = nm)) && !(decide (x = fn)) && !(decide (x = nm)) && !(decide (fn = nm)) &&
      !(decide (q.1 = y)) && !(decide (x = y)) && (py.line == pos.line) && !isDbg fn && !isDbg x && !isDbg nm && !isSet iter && decide (scope.kind = .function) && decide (knd C nm = some .cell) then
      match nsIn C.K mainGlobals fn with
      | some (some (.ref a)) => if keepIn C.K (.ref a) then (slotL C y).bind fun j => (idx nm C.names).bind fun i => (rE iter).map fun e => .asg j (.mapf a e i) else none
      | _ => none
    else none

/-- [x for x' in iter] without a test -/
noncomputable def genOf : List Comprehension → Option (Str × Pos × Expr)
  | [] => none
  | g :: r => if r.isEmpty && g.ifs.isEmpty && decide (g.is_async = 0) then (nameOf g.target).map fun x => (x.1, x.2, g.iter) else none
theorem genOf_is {l : List Comprehension} {x : Str × Pos × Expr} (h : genOf l = some x) : l = [⟨.Name x.1 x.2.1, x.2.2, [], 0⟩] := by
  match l with
  | [] => cases h
  | g :: r =>
    have h : (if r.isEmpty && g.ifs.isEmpty && decide (g.is_async = 0) then (nameOf g.target).map fun x => (x.1, x.2, g.iter) else none) = some x := h
    split at h
    · rename_i e
      rw [Bool.and_eq_true, Bool.and_eq_true, decide_eq_true_eq, List.isEmpty_iff, List.isEmpty_iff] at e
      obtain ⟨⟨e1, e2⟩, e3⟩ := e
      obtain ⟨z, hz, hx⟩ := Option.map_eq_some_iff.mp h
      obtain ⟨gt, gi, gf, ga⟩ := g
      have e2 : gf = [] := e2
      have e3 : ga = 0 := e3
      subst e1 e2 e3 hx
      rw [show gt = _ from nameOf_is hz]
    · cases h

/-- fn(x, nm) -/
noncomputable def callOf : Expr → Option ((Str × Pos) × (Str × Pos) × (Str × Pos) × Pos)
  | .Call f as ks p => if ks.isEmpty then (nameOf f).bind fun f => (two as).bind fun q => (nameOf q.1).bind fun x => (nameOf q.2).map fun y => (f, x, y, p) else none
  | _ => none
theorem callOf_is {e : Expr} {x : (Str × Pos) × (Str × Pos) × (Str × Pos) × Pos} (h : callOf e = some x) : e = .Call (.Name x.1.1 x.1.2) [.Name x.2.1.1 x.2.1.2, .Name x.2.2.1.1 x.2.2.1.2] [] x.2.2.2 := by
  cases e with
  | Call f as ks p =>
    have h : (if ks.isEmpty then (nameOf f).bind fun f => (two as).bind fun q => (nameOf q.1).bind fun x => (nameOf q.2).map fun y => (f, x, y, p) else none) = some x := h
    split at h
    · rename_i e
      rw [List.isEmpty_iff] at e
      subst e
      obtain ⟨f', hf, h⟩ := Option.bind_eq_some_iff.mp h
      obtain ⟨q, hq, h⟩ := Option.bind_eq_some_iff.mp h
      obtain ⟨u, hu, h⟩ := Option.bind_eq_some_iff.mp h
      obtain ⟨v, hv, rfl⟩ := Option.map_eq_some_iff.mp h
      rw [nameOf_is hf, two_is hq, nameOf_is hu, nameOf_is hv]
    · cases h
  | _ => exact none_ne h

noncomputable def cLC (C : Ctx) (rE : Expr → Option ME) (y : Str) (py : Pos) (v : Expr) : Option MS := match v with
  | .ListComp elt gens scope pos => (callOf elt).bind fun q => (genOf gens).bind fun g => cMapf C rE y py q.1.1 q.2.1.1 q.2.2.1.1 g.1 g.2.2 scope pos
  | v => if isComp v then none else (slotL C y).bind fun i => (rE v).map fun a => .asg i a
noncomputable def cAsg (C : Ctx) (rE : Expr → Option ME) (t v : Expr) : Option MS := match t with
  | .Name y py => cLC C rE y py v
  | .Attribute o x _ => if isComp v then none else (idx x C.attrs).bind fun i => (rE o).bind fun a => (rE v).map fun b => .asgA a i b
  | .Subscript o i _ => if isComp v then none else (rE o).bind fun a => (rE i).bind fun b => (rE v).map fun d => .asgS a b d
  | .Tuple es _ _ => if isComp v || isTuple v then none else (two es).bind fun q => (nameOf q.1).bind fun x => (nameOf q.2).bind fun y => (slotL C x.1).bind fun i => (slotL C y.1).bind fun j => (rE v).map fun a => .asgT i j a
  | _ => none
noncomputable def isAdd : Operator → Bool
  | .Add => true
  | _ => false
theorem isAdd_is {o : Operator} (h : isAdd o = true) : o = .Add := by cases o <;> first | rfl | cases h
noncomputable def cAug (C : Ctx) (rE : Expr → Option ME) (t v : Expr) : Option MS := match t with
  | .Name x _ => (slotL C x).bind fun i => (rE v).map fun a => .augL i a
  | .Subscript o i _ => if isSlice i then none else (rE o).bind fun a => (rE i).bind fun b => (rE v).map fun d => .augS a b d
  | _ => none

noncomputable def cS1 (C : Ctx) (rE : Expr → Option ME) (rT : Expr → Option MT) (rS : List Stmt → MSs) (s : Stmt) : Option MS := match s with
  | .Assign ts v _ => (one ts).bind fun t => cAsg C rE t v
  | .AugAssign t op v _ => if isAdd op then cAug C rE t v else none
  | .Expr e _ => if isComp e then none else (rE e).map .expr
  | .Return v _ => v.bind fun e => (rE e).map .ret
  | .If t b o _ => (rT t).map fun c => .iff c (rS b) (rS o)
  | .While t b o _ => if o.isEmpty then (rT t).map fun c => .while c (rS b) else none
  | .For t it b o _ => if o.isEmpty then (nameOf t).bind fun x => if isSet it then none else (slotL C x.1).bind fun i => (rE it).map fun e => .forr i e (rS b) else none
  | .Continue _ => some .cont
  | _ => none

noncomputable def cSs (C : Ctx) : Nat → List Stmt → MSs
  | 0, _ => .cons .stuck .nil
  | _ + 1, [] => .nil
  | n + 1, s :: r => .cons ((cS1 C (cET C 14).1 (cET C 14).2 (cSs C n) s).getD .stuck) (cSs C n r)

section
variable {c : Cfg} {C : Ctx} {env : Env} {n : Nat} {G : Orc}

theorem slotL_of (X : CtxOk c C env) {x : Str} {i : Nat} (h : slotL C x = some i) : C.names[i]? = some x ∧ env.kindOf x = some .local := by
  unfold slotL at h
  split at h
  · rename_i hk; exact ⟨idx_get h, (kof X x).trans hk⟩
  · cases h

theorem noswap {value : Expr} {t : Option Expr} {l : Nat} (h : ¬ isComp value = true) : swapsWith value t l env = pure false := by
  cases value <;> first | exact absurd rfl h | rfl

theorem nofold {it : Expr} (h : ¬ isSet it = true) : ∀ v, foldedSetIterable it env v = pure v := by
  intro v
  cases it <;> first | exact absurd rfl h | rfl

noncomputable def rlk (env : Env) (n : Str) (k : NameKind) : NameKind := if (k == NameKind.free && env.scope.kind == .function && env.kindOf n == some .cell) then .cell else k
theorem rl_local (env : Env) (n : Str) : rlk env n .local = .local := rfl
theorem rl_glob (env : Env) (n : Str) : rlk env n .globalImplicit = .globalImplicit := rfl
theorem rl_free {env : Env} {n : Str} (hk : env.scope.kind = .function) (h : env.kindOf n = some .cell) : rlk env n .free = .cell := by
  unfold rlk; rw [hk, h]; rfl

theorem cMapf_sound (O : c.Ok) (X : CtxOk c C env) (hO : OrcOk c n G) {rE : Expr → Option ME} (hE : SoundE c C env n G rE) {y fn x nm x' : Str} {py pf pa pb pc px spos pos : Pos} {iter : Expr} {scope : Scope} {a : MS}
    (h : cMapf C rE y py fn x nm x' iter scope pos = some a) :
    SimS c env C.names n (exec (.Assign [.Name y py] (.ListComp (.Call (.Name fn pf) [.Name x pa, .Name nm pb] [] pc) [⟨.Name x' px, iter, [], 0⟩] scope pos) spos) env) (evS G c.T a) := by
  unfold cMapf at h
  obtain ⟨⟨z, x2, fn2, nm2⟩, hq, hh⟩ := Option.bind_eq_some_iff.mp h
  clear h
  have hn := four_is hq
  dsimp only at hh hn
  have once : True := trivial
  cases once with
  | intro =>
    split at hh
    · rename_i hc
      simp only [Bool.and_eq_true, Bool.not_eq_true', decide_eq_true_eq, decide_eq_false_iff_not, beq_iff_eq] at hc
      obtain ⟨⟨⟨⟨⟨⟨⟨⟨⟨⟨⟨⟨⟨⟨⟨⟨⟨⟨rfl, rfl⟩, rfl⟩, rfl⟩, zx⟩, zf⟩, zn⟩, xf⟩, xn⟩, fn'⟩, zy⟩, xy⟩, hl⟩, df⟩, dx⟩, dn⟩, hset⟩, hkind⟩, hcell⟩ := hc
      split at hh
      · rename_i ad hg
        split at hh
        · rename_i hkp
          obtain ⟨j, hj, hh⟩ := Option.bind_eq_some_iff.mp hh
          obtain ⟨i, hi, hh⟩ := Option.bind_eq_some_iff.mp hh
          obtain ⟨e, he, rfl⟩ := Option.map_eq_some_iff.mp hh
          obtain ⟨j1, j2⟩ := slotL_of X hj
          have hnm : env.kindOf nm = some .cell := (kof X nm).trans hcell
          have b1 : (x == z) = false := beq_eq_false_iff_ne.mpr (Ne.symm zx)
          have b2 : (fn == z) = false := beq_eq_false_iff_ne.mpr (Ne.symm zf)
          have b3 : (fn == x) = false := beq_eq_false_iff_ne.mpr (Ne.symm xf)
          have b4 : (nm == z) = false := beq_eq_false_iff_ne.mpr (Ne.symm zn)
          have b5 : (nm == x) = false := beq_eq_false_iff_ne.mpr (Ne.symm xn)
          have b6 : (nm == fn) = false := beq_eq_false_iff_ne.mpr (Ne.symm fn')
          have kin : ∀ {cl : List (Str × Addr)} (C' : Addr) (q : Str), (compEnvC scope cl C' env).kindOf q = (scope.names.map fun p => (p.1, rlk env p.1 p.2)).lookup q := fun C' q => by
            show (scope.names.map fun (n, k) => if (k == NameKind.free && env.scope.kind == .function && env.kindOf n == some .cell) then (n, NameKind.cell) else (n, k)).lookup q = _
            congr 2
            funext ⟨n, k⟩
            show (if (k == NameKind.free && env.scope.kind == .function && env.kindOf n == some .cell) = true then (n, NameKind.cell) else (n, k)) = (n, if (k == NameKind.free && env.scope.kind == .function && env.kindOf n == some .cell) = true then NameKind.cell else k)
            split <;> rfl
          obtain ⟨ca, hca⟩ := Option.isSome_iff_exists.mp (X.cells nm hcell)
          refine sim_mapf (cl := [(nm, ca)]) O X.frm hO j1 (idx_get hi) j2 hnm ?_ ?_ ?_ ?_ hkind ?_ ?_ ?_ ?_ ?_ (X.K ▸ hg) (X.K ▸ hkp) df dx dn (nofold (by rw [hset]; decide)) (hE _ _ he)
          · show (pure (env.blockKind == .function && env.kindOf y == some .local && py.line == pos.line && !(scope.names.any fun (n, k) => n == y && (k == .local || k == .cell))) : Sem Bool) = pure true
            have e1 : env.blockKind = .function := by unfold Env.blockKind; rw [X.frm.kind]; rfl
            have e2 : (scope.names.any fun (n, k) => n == y && (k == .local || k == .cell)) = false := by
              rw [hn]
              have c1 : (z == y) = false := beq_eq_false_iff_ne.mpr zy
              have c2 : (x == y) = false := beq_eq_false_iff_ne.mpr xy
              simp only [List.any_cons, List.any_nil, c1, c2, Bool.false_and, Bool.or_false, Bool.false_or, Bool.and_false]
              rw [show (NameKind.globalImplicit == NameKind.local) = false from rfl, show (NameKind.globalImplicit == NameKind.cell) = false from rfl, show (NameKind.free == NameKind.local) = false from rfl, show (NameKind.free == NameKind.cell) = false from rfl]
              simp
            rw [e1, j2, hl, e2]
            simp
          · unfold closureFor
            rw [hn]
            have hcf : cellOf env nm = pure ca := by unfold cellOf; rw [hca]
            simp only [List.forIn_cons, List.forIn_nil]
            rw [show (NameKind.local == NameKind.free) = false from rfl, show (NameKind.globalImplicit == NameKind.free) = false from rfl, show (NameKind.free == NameKind.free) = true from rfl, hcf]
            rfl
          · rw [hca]; simp
          · rw [hn]; simp
          · rw [hn]; intro q hq hql
            rcases List.mem_cons.mp hq with rfl | hq
            · simp [List.lookup_cons]
            · rcases List.mem_cons.mp hq with rfl | hq
              · simp [List.lookup_cons, b1]
              · rcases List.mem_cons.mp hq with rfl | hq
                · cases hql
                · rw [List.mem_singleton.mp hq] at hql; cases hql
          · rw [hn]; simp [List.lookup_cons, b1]
          · intro C'
            rw [kin C', hn]; simp [List.lookup_cons, b2, b3, rl_local, rl_glob]
          · intro C'
            rw [kin C', hn]; simp [List.lookup_cons, b1, rl_local]
          · intro C'
            rw [kin C', hn]; simp [List.lookup_cons, b4, b5, b6, rl_free X.frm.kind hnm]
        · cases hh
      · cases hh
    · cases hh

theorem cAsg_sound (O : c.Ok) (X : CtxOk c C env) (hO : OrcOk c n G) {rE : Expr → Option ME} (hE : SoundE c C env n G rE) {t v : Expr} {p : Pos} {a : MS} (h : cAsg C rE t v = some a) : SimS c env C.names n (exec (.Assign [t] v p) env) (evS G c.T a) := by
  cases t with
  | Name y py =>
    have h : cLC C rE y py v = some a := h
    have plain : ¬ isComp v = true → (if isComp v then none else (slotL C y).bind fun i => (rE v).map fun a => MS.asg i a) = some a → SimS c env C.names n (exec (.Assign [.Name y py] v p) env) (evS G c.T a) := fun hc h => by
      rw [if_neg hc] at h
      obtain ⟨i, hi, h⟩ := Option.bind_eq_some_iff.mp h
      obtain ⟨a1, h1, rfl⟩ := Option.map_eq_some_iff.mp h
      exact sim_asg X.frm (slotL_of X hi).1 (slotL_of X hi).2 (noswap hc) (hE _ _ h1)
    cases v with
    | ListComp elt gens scope pos =>
      have h : ((callOf elt).bind fun q => (genOf gens).bind fun g => cMapf C rE y py q.1.1 q.2.1.1 q.2.2.1.1 g.1 g.2.2 scope pos) = some a := h
      obtain ⟨q, hq, h⟩ := Option.bind_eq_some_iff.mp h
      obtain ⟨g, hg, h⟩ := Option.bind_eq_some_iff.mp h
      rw [callOf_is hq, genOf_is hg]
      exact cMapf_sound O X hO hE h
    | SetComp => exact none_ne h
    | DictComp => exact none_ne h
    | _ => exact plain (by intro z; cases z) h
  | Attribute o x q =>
    have h : (if isComp v then none else (idx x C.attrs).bind fun i => (rE o).bind fun a => (rE v).map fun b => MS.asgA a i b) = some a := h
    split at h
    · cases h
    · rename_i hc
      obtain ⟨i, hi, h⟩ := Option.bind_eq_some_iff.mp h
      obtain ⟨a1, h1, h⟩ := Option.bind_eq_some_iff.mp h
      obtain ⟨a2, h2, rfl⟩ := Option.map_eq_some_iff.mp h
      exact sim_asgA O (X.attrs ▸ idx_get hi) (noswap hc) (hE _ _ h2) (hE _ _ h1)
  | Subscript o i q =>
    have h : (if isComp v then none else (rE o).bind fun a => (rE i).bind fun b => (rE v).map fun d => MS.asgS a b d) = some a := h
    split at h
    · cases h
    · rename_i hc
      obtain ⟨a1, h1, h⟩ := Option.bind_eq_some_iff.mp h
      obtain ⟨a2, h2, h⟩ := Option.bind_eq_some_iff.mp h
      obtain ⟨a3, h3, rfl⟩ := Option.map_eq_some_iff.mp h
      exact sim_asgS O (noswap hc) (hE _ _ h3) (hE _ _ h1) (hE _ _ h2)
  | Tuple es u q =>
    have h : (if isComp v || isTuple v then none else (two es).bind fun q => (nameOf q.1).bind fun x => (nameOf q.2).bind fun y => (slotL C x.1).bind fun i => (slotL C y.1).bind fun j => (rE v).map fun a => MS.asgT i j a) = some a := h
    split at h
    · cases h
    · rename_i hc
      rw [Bool.or_eq_true, not_or] at hc
      obtain ⟨q, hq, h⟩ := Option.bind_eq_some_iff.mp h
      obtain ⟨x, hx, h⟩ := Option.bind_eq_some_iff.mp h
      obtain ⟨y, hy, h⟩ := Option.bind_eq_some_iff.mp h
      obtain ⟨i, hi, h⟩ := Option.bind_eq_some_iff.mp h
      obtain ⟨j, hj, h⟩ := Option.bind_eq_some_iff.mp h
      obtain ⟨a1, h1, rfl⟩ := Option.map_eq_some_iff.mp h
      rw [two_is hq, nameOf_is hx, nameOf_is hy]
      exact sim_asgT X.frm (slotL_of X hi).1 (slotL_of X hj).1 (slotL_of X hi).2 (slotL_of X hj).2 (by unfold swapsWithSole; exact noswap hc.1) (by have h2 := hc.2; clear h h1 hc; cases v <;> first | exact absurd rfl h2 | rfl) (hE _ _ h1)
  | _ => exact none_ne h

theorem cAug_sound (O : c.Ok) (X : CtxOk c C env) (hO : OrcOk c n G) {rE : Expr → Option ME} (hE : SoundE c C env n G rE) {t v : Expr} {p : Pos} {a : MS} (h : cAug C rE t v = some a) : SimS c env C.names n (exec (.AugAssign t .Add v p) env) (evS G c.T a) := by
  cases t with
  | Name x q =>
    have h : ((slotL C x).bind fun i => (rE v).map fun a => MS.augL i a) = some a := h
    obtain ⟨i, hi, h⟩ := Option.bind_eq_some_iff.mp h
    obtain ⟨a1, h1, rfl⟩ := Option.map_eq_some_iff.mp h
    exact sim_augL X.frm (slotL_of X hi).1 (slotL_of X hi).2 (hE _ _ h1)
  | Subscript o i q =>
    have h : (if isSlice i then none else (rE o).bind fun a => (rE i).bind fun b => (rE v).map fun d => MS.augS a b d) = some a := h
    split at h
    · cases h
    · rename_i hs
      obtain ⟨a1, h1, h⟩ := Option.bind_eq_some_iff.mp h
      obtain ⟨a2, h2, h⟩ := Option.bind_eq_some_iff.mp h
      obtain ⟨a3, h3, rfl⟩ := Option.map_eq_some_iff.mp h
      exact sim_augS O (by clear h h2; cases i <;> first | exact absurd rfl hs | (intro _ _ _; rfl)) (hE _ _ h3) (hE _ _ h1) (hE _ _ h2)
  | _ => exact none_ne h

theorem cS1_sound (O : c.Ok) (X : CtxOk c C env) (hO : OrcOk c n G) {rE : Expr → Option ME} {rT : Expr → Option MT} {rS : List Stmt → MSs} (hE : SoundE c C env n G rE) (hT : SoundT c C env n G rT)
    (hS : ∀ b, SimS c env C.names n (execs b env) (evSs G c.T (rS b))) {s : Stmt} {a : MS} (h : cS1 C rE rT rS s = some a) : SimS c env C.names n (exec s env) (evS G c.T a) := by
  cases s with
  | Assign ts v p =>
    have h : ((one ts).bind fun t => cAsg C rE t v) = some a := h
    obtain ⟨t, ht, h⟩ := Option.bind_eq_some_iff.mp h
    rw [one_is ht]
    exact cAsg_sound O X hO hE h
  | AugAssign t op v p =>
    have h : (if isAdd op then cAug C rE t v else none) = some a := h
    split at h
    · rename_i e
      rw [isAdd_is e]
      exact cAug_sound O X hO hE h
    · cases h
  | Expr e p =>
    have h : (if isComp e then none else (rE e).map MS.expr) = some a := h
    split at h
    · cases h
    · rename_i hc
      obtain ⟨a1, h1, rfl⟩ := Option.map_eq_some_iff.mp h
      exact sim_expr (by unfold interactive; rw [X.frm.kind]; rfl) (noswap hc) (hE _ _ h1)
  | Return v p =>
    have h : (v.bind fun e => (rE e).map MS.ret) = some a := h
    obtain ⟨e, rfl, h⟩ := Option.bind_eq_some_iff.mp h
    obtain ⟨a1, h1, rfl⟩ := Option.map_eq_some_iff.mp h
    exact sim_ret (hE _ _ h1)
  | If t b o p =>
    have h : ((rT t).map fun c => MS.iff c (rS b) (rS o)) = some a := h
    obtain ⟨a1, h1, rfl⟩ := Option.map_eq_some_iff.mp h
    exact sim_iff (hT _ _ h1) (hS _) (hS _)
  | While t b o p =>
    have h : (if o.isEmpty then (rT t).map fun c => MS.while c (rS b) else none) = some a := h
    split at h
    · rename_i e
      rw [List.isEmpty_iff] at e
      subst e
      obtain ⟨a1, h1, rfl⟩ := Option.map_eq_some_iff.mp h
      exact sim_while (hT _ _ h1) (hS _)
    · cases h
  | For t it b o p =>
    have h : (if o.isEmpty then (nameOf t).bind fun x => if isSet it then none else (slotL C x.1).bind fun i => (rE it).map fun e => MS.forr i e (rS b) else none) = some a := h
    split at h
    · rename_i e
      rw [List.isEmpty_iff] at e
      subst e
      obtain ⟨x, hx, h⟩ := Option.bind_eq_some_iff.mp h
      split at h
      · cases h
      · rename_i hc
        obtain ⟨i, hi, h⟩ := Option.bind_eq_some_iff.mp h
        obtain ⟨a1, h1, rfl⟩ := Option.map_eq_some_iff.mp h
        rw [nameOf_is hx]
        exact sim_for X.frm (slotL_of X hi).1 (slotL_of X hi).2 (nofold hc) (hE _ _ h1) (hS _)
    · cases h
  | Continue p => have h : some MS.cont = some a := h; cases h; exact sim_cont
  | _ => exact none_ne h

theorem cSs_sound (O : c.Ok) (X : CtxOk c C env) (hO : OrcOk c n G) : ∀ (m : Nat) (b : List Stmt), SimS c env C.names n (execs b env) (evSs G c.T (cSs C m b))
  | 0, b => fun A σ k g ρ m s Q E hr hv _ _ => by unfold cSs evSs evS at hv; exact hv.elim
  | m + 1, [] => simSs_nil
  | m + 1, s :: r => by
    refine simSs_cons ?_ (cSs_sound O X hO m r)
    cases h : cS1 C (cET C 14).1 (cET C 14).2 (cSs C m) s with
    | none => exact sim_stuck
    | some a => exact cS1_sound O X hO (cET_sound O X hO 14).1 (cET_sound O X hO 14).2 (fun b => cSs_sound O X hO m b) h

end
end Mine
end

section
open PySem PySem.W PyProof.Rows PySem.Calls
set_option Elab.async false
set_option maxRecDepth 100000
set_option linter.unusedVariables false
set_option linter.unusedSectionVars false

namespace Mine

/-! ## functions as they stand in the fragment -/
theorem zip_lookup {α : Type} : ∀ {ns : List Str} {us : List α} {x : Str}, ns.length = us.length → x ∈ ns → ((ns.zip us).lookup x).isSome = true
  | [], _, _, _, h => nomatch h
  | n :: ns, [], _, e, _ => by cases e
  | n :: ns, u :: us, x, e, h => by
    rw [List.zip_cons_cons, List.lookup_cons]
    cases hx : x == n with
    | true => rfl
    | false =>
      rcases List.mem_cons.mp h with rfl | h
      · rw [beq_self_eq_true] at hx; cases hx
      · exact zip_lookup (by simpa using e) h

theorem fm_congr {α β : Type} {f g : α → Option β} : ∀ {l : List α}, (∀ x ∈ l, f x = g x) → l.filterMap f = l.filterMap g
  | [], _ => rfl
  | a :: l, h => by
    rw [List.filterMap_cons, List.filterMap_cons, h a (.head _), fm_congr fun x hx => h x (.tail _ hx)]

theorem zip_back {α : Type} : ∀ {ns : List Str} {us : List α}, ns.length = us.length → ns.Nodup → (ns.filterMap fun n => ((ns.zip us).lookup n).map (n, ·)) = ns.zip us
  | [], _, _, _ => rfl
  | n :: ns, [], e, _ => by cases e
  | n :: ns, u :: us, e, nd => by
    rw [List.nodup_cons] at nd
    have ih := zip_back (ns := ns) (us := us) (by simpa using e) nd.2
    have e1 : ((n, u) :: ns.zip us).lookup n = some u := by rw [List.lookup_cons, beq_self_eq_true]
    rw [List.zip_cons_cons, List.filterMap_cons, e1]
    simp only [Option.map_some]
    congr 1
    rw [← ih]
    exact fm_congr fun y hy => by
      have : (y == n) = false := beq_eq_false_iff_ne.mpr fun z => nd.1 (z ▸ hy)
      rw [ih, List.lookup_cons, this]

noncomputable def simpleParams (p : Arguments) : Bool := p.posonlyargs.isEmpty && p.kwonlyargs.isEmpty && p.vararg.isNone && p.kwarg.isNone
noncomputable def parNames (fd : FuncData) : List Str := fd.params.args.map (·.arg)

theorem binds_simple {s : Shared} {fd : FuncData} {us : List Value} (hp : simpleParams fd.params = true) (hd : fd.defaults = .none) (hl : (parNames fd).length = us.length) (nd : (parNames fd).Nodup) : BindsTo s fd ⟨us, []⟩ ((parNames fd).zip us) := by
  refine BindsTo.of_eq ?_
  unfold simpleParams at hp
  simp only [Bool.and_eq_true, List.isEmpty_iff, Option.isNone_iff_eq_none] at hp
  obtain ⟨⟨⟨h1, h2⟩, h3⟩, h4⟩ := hp
  have e1 : (List.take (parNames fd).length (parNames fd)).filter (fun n => (((parNames fd).zip us).lookup n).isNone) = [] := by
    rw [List.filter_eq_nil_iff]
    intro x hx
    have := zip_lookup hl (List.mem_of_mem_take hx)
    rw [Option.isNone_iff_eq_none]
    intro z; rw [z] at this; cases this
  have e2 := zip_back hl nd
  unfold parNames at hl e1 e2 ⊢
  unfold bindArgs
  simp only [h1, h2, h3, h4, hd, List.map_nil, List.nil_append, List.append_nil, List.forIn_nil]
  have hq : (seqItems? Value.none) = (pure none : Sem (Option (Array Value))) := rfl
  have hg : ¬ us.length > (List.map (fun x => x.arg) fd.params.args).length := by omega
  rw [hq]
  simp only [pure_bind, hg, Option.getD_none, List.drop_nil, List.length_nil, Nat.sub_zero, decide_false, Bool.false_and, Bool.false_eq_true, if_false, List.zip_nil_right, List.forIn_nil, e1, e2, List.isEmpty_nil, Bool.not_true]

structure Lay where
  K : Frag
  attrs : List Str
  ini : Nat → Option Nat
  fl : Pos → Bool

noncomputable def fnRow (K : Frag) (f : Nat) : Option (FuncData × List Stmt) := match K.lookup f with
  | some ⟨_, _, .func fd, _⟩ => (match fd.body with
    | .stmts b => some (fd, b)
    | _ => none)
  | _ => none

noncomputable def slotsOf (fd : FuncData) : List Str := parNames fd ++ fd.scope.names.filterMap fun p => if (decide (p.2 = .local) || decide (p.2 = .cell)) && !(parNames fd).contains p.1 then some p.1 else none

noncomputable def kindOk (fd : FuncData) (x : Str) : Bool := match fd.scope.names.lookup x with
  | some .local => true
  | some .cell => ((cellsFrom 0 fd.scope.names []).map (·.1)).contains x
  | _ => false

noncomputable def fnOk (K : Frag) (fd : FuncData) : Bool := codeIn K fd.code fd.qualname && !fd.scope.isCoroutine && !fd.scope.isGenerator && decide (fd.scope.kind = .function) && fd.closure.isEmpty && decide (fd.globals = mainGlobals) && decide (fd.builtins = builtinsNs) &&
  decide (slotsOf fd).Nodup && (slotsOf fd).all (kindOk fd) && simpleParams fd.params && fd.scope.names.all fun p => !decide (p.2 = .cell) || ((cellsFrom 0 fd.scope.names []).map (·.1)).contains p.1

noncomputable def mkFun (L : Lay) (dfl : List MV) (f : Nat) : Option Fun := match fnRow L.K f with
  | some (fd, b) => if fnOk L.K fd then some ⟨(parNames fd).length, dfl, (slotsOf fd).length, cSs ⟨L.K, fd.scope, slotsOf fd, L.attrs, L.ini, L.fl⟩ 60 b⟩ else none
  | none => none

noncomputable def noDef (K : Frag) (f : Nat) : Bool := match fnRow K f with
  | some (fd, _) => (match fd.defaults with | .none => true | _ => false)
  | none => false

noncomputable def BindAll (c : Cfg) (f : Nat) (dfl : List MV) : Prop := ∀ fd b, fnRow c.K f = some (fd, b) → ∀ (s : Shared) (g : Heap) (ρ : Locs) (vs : List MV) (us : List Value), Sub g s.heap → Sub c.g₀ g → IsAll g ρ vs us → vs.length ≤ (parNames fd).length → (parNames fd).length ≤ vs.length + dfl.length →
    ∃ ws, BindsTo s fd ⟨us, []⟩ ((parNames fd).zip ws) ∧ IsAll g ρ (vs ++ dfl.drop (dfl.length - ((parNames fd).length - vs.length))) ws

theorem lookup_isSome {α : Type} : ∀ {l : List (Str × α)} {x : Str}, x ∈ l.map (·.1) → (l.lookup x).isSome = true
  | [], _, h => nomatch h
  | p :: r, x, h => by
    obtain ⟨k, v⟩ := p
    rw [List.lookup_cons]
    cases hx : x == k with
    | true => rfl
    | false =>
      rcases List.mem_cons.mp h with rfl | h
      · rw [beq_self_eq_true] at hx; cases hx
      · exact lookup_isSome h

theorem cell_any {names : List (Str × NameKind)} {x : Str} (h : x ∈ (cellsFrom 0 names []).map (·.1)) (n : Nat) : ((cellsFrom n names []).lookup x).isSome = true :=
  lookup_isSome (cellsFrom_names names 0 n [] [] rfl ▸ h)

theorem mk_is {c : Cfg} {L : Lay} (C : c.Ok) (hK : L.K = c.K) (hA : L.attrs = c.attrs) (hI : L.ini = c.T.ini) (hB : bltAttrs c.attrs) {dfl : List MV} {f : Nat} {d : Fun} (h : mkFun L dfl f = some d) (hb : (noDef c.K f = true ∧ dfl = []) ∨ BindAll c f dfl) :
    ∃ fd body names, FnIs c f d fd body names := by
  unfold mkFun at h
  split at h
  · rename_i fd b hrow
    split at h
    · rename_i hok
      cases h
      have hall := hb
      rw [hK] at hrow
      have hrow' := hrow
      unfold fnRow at hrow'
      split at hrow'
      · rename_i dd sl fd' hl
        split at hrow'
        · rename_i b' hbody
          cases hrow'
          unfold fnOk at hok
          simp only [Bool.and_eq_true, Bool.not_eq_true', decide_eq_true_eq, List.isEmpty_iff] at hok
          obtain ⟨⟨⟨⟨⟨⟨⟨⟨⟨⟨h1, h2⟩, h3⟩, h4⟩, h5⟩, h6⟩, h7⟩, h8⟩, h9⟩, h10⟩, h11⟩ := hok
          have hk : ∀ x ∈ slotsOf fd, fd.scope.names.lookup x = some .local ∨ (fd.scope.names.lookup x = some .cell ∧ ∀ n, ((cellsFrom n fd.scope.names []).lookup x).isSome = true) := fun x hx => by
            have := List.all_eq_true.mp h9 x hx
            unfold kindOk at this
            split at this
            · rename_i e; exact .inl e
            · rename_i e; exact .inr ⟨e, cell_any (by simpa using this)⟩
            · cases this
          have hpn : (slotsOf fd).take (parNames fd).length = parNames fd := by unfold slotsOf; simp
          refine ⟨fd, b, slotsOf fd, ⟨_, hl, rfl⟩, hK ▸ h1, hbody, h2, h3, h4, h5, h6, h7, h8, rfl, by unfold slotsOf; simp, hk, ?_, fun n G hO a ha => ?_⟩
          · rw [hpn]
            rcases hb with ⟨hn, rfl⟩ | hb
            · intro s g ρ vs us s1 s2 hi l1 l2
              have l1' : vs.length ≤ (parNames fd).length := l1
              have l2' : (parNames fd).length ≤ vs.length + 0 := l2
              refine ⟨us, binds_simple h10 ?_ (by rw [← hi.length]; omega) ?_, by simpa using hi⟩
              · unfold noDef at hn
                rw [hrow] at hn
                dsimp only at hn
                split at hn
                · assumption
                · cases hn
              · have : (slotsOf fd).Nodup := h8
                unfold slotsOf at this
                exact (List.nodup_append.mp this).1
            · exact hb fd b hrow
          · refine cSs_sound C ⟨fn_frm (d := ⟨0, [], 0, .nil⟩) (body := b) h4 h6 h7 h8 (fun x hx => (hk x hx).imp id fun y => y.1) ha, hK, rfl, hA, hI, hB, fun x hx => ?_⟩ hO 60 b
            show ((cellsFrom (a + 1) fd.scope.names []).lookup x).isSome = true
            refine cell_any ?_ _
            have hm := List.all_eq_true.mp h11 _ (mem_of_lookup hx)
            simpa using hm
        · cases hrow'
      · cases hrow'
    · cases h
  · cases h

end Mine
end

section
open PySem PySem.W PyProof.Rows PySem.Calls
set_option Elab.async false
set_option maxRecDepth 100000
set_option linter.unusedVariables false
set_option linter.unusedSectionVars false

namespace Mine

noncomputable def attrL : List Str := ["append", "pop", "get", "bit_length", "texts", "atom_numbers", "functors", "functor_numbers", "symbols", "max_heap", "heap", "stack", "trail", "hb", "bb", "code", "occurs", "max_bits", "store", "x", "p", "cp", "e", "b", "b0", "mode", "s", "guard", "roots", "bags", "collect_wanted",
  "atom", "text", "functor", "func", "name", "arity", "push", "new_var", "reserve", "deref", "bind", "globalise", "functor_of", "base", "arg", "new_block", "new_struct", "put_term", "reset", "set_x", "set_arguments", "put"].map Str.ofString
noncomputable def fldL : List (Nat × List Nat) := [(154, [4, 5, 6, 7]), (423, [8, 9, 10, 11, 12, 13, 14]), (746, [8, 15, 9, 16, 17, 18, 19, 20, 21, 22, 23, 24, 25, 26, 27, 28, 29, 30])]
noncomputable def mthL : List (Nat × List (Nat × Nat)) := [(154, [(31, 88), (32, 95), (33, 102), (34, 109), (35, 116), (36, 123)]),
  (423, [(37, 244), (38, 251), (39, 258), (40, 272), (41, 286), (42, 300), (43, 335), (44, 349), (45, 356), (46, 363), (47, 384), (48, 406)]),
  (746, [(49, 610), (50, 617), (51, 624), (45, 631), (52, 652)])]
noncomputable def iniL : List (Nat × Nat) := [(154, 81), (423, 237), (746, 603)]
noncomputable def tab : Tab where
  mth C a := (mthL.lookup C).bind fun l => l.lookup a
  ini C := iniL.lookup C
  fld C a := match fldL.lookup C with
    | some l => l.contains a
    | none => false
noncomputable def flp (p : Pos) : Bool := [117, 118, 500, 589, 650, 652, 659, 661, 664, 667, 670].contains p.line
noncomputable def lay (K : Frag) : Lay := ⟨K, attrL, fun C => iniL.lookup C, flp⟩
noncomputable def fnL : List (Nat × List MV) := [(60, []), (67, []), (81, []), (88, []), (95, []), (102, []), (109, []), (116, []), (123, []), (237, []), (244, []), (251, []), (258, []), (272, []), (286, []), (300, []), (335, []), (349, []), (356, []), (363, []), (384, []), (406, []),
  (441, []), (448, []), (455, []), (511, []), (532, []), (539, []), (546, []), (553, []), (560, []), (567, []), (574, []), (581, []), (588, []), (603, [.int 100000, .bool true, .int 4096]), (610, []), (617, []), (624, []), (631, []), (652, []), (757, []), (764, []), (771, []), (776, []), (783, [])]

end Mine
end

section
open PySem PySem.W PyProof.Rows PySem.Calls
set_option Elab.async false
set_option maxRecDepth 100000
set_option linter.unusedVariables false

namespace Mine
/-! ## the program in the mini language (printed by the compile functions above; checked against them in the join) -/
noncomputable def f60 : Fun := { npar := 0, dflt := [], nloc := 0, body := .cons (.ret (.tup (.cons (.lit (.str (Str.ofString "[]"))) (.cons (.lit (.str (Str.ofString "."))) (.cons (.lit (.str (Str.ofString "{}"))) (.cons (.lit (.str (Str.ofString "-"))) (.cons (.lit (.str (Str.ofString "+"))) (.cons (.lit (.str (Str.ofString "*"))) (.cons (.lit (.str (Str.ofString "/"))) (.cons (.lit (.str (Str.ofString ","))) (.cons (.lit (.str (Str.ofString "|"))) (.cons (.lit (.str (Str.ofString ";"))) (.cons (.lit (.str (Str.ofString "->"))) (.cons (.lit (.str (Str.ofString "\\+"))) (.cons (.lit (.str (Str.ofString ":-"))) (.cons (.lit (.str (Str.ofString "?-"))) (.cons (.lit (.str (Str.ofString "-->"))) (.cons (.lit (.str (Str.ofString "!"))) (.cons (.lit (.str (Str.ofString "true"))) (.cons (.lit (.str (Str.ofString "fail"))) (.cons (.lit (.str (Str.ofString "false"))) (.cons (.lit (.str (Str.ofString "call"))) (.cons (.lit (.str (Str.ofString "="))) (.cons (.lit (.str (Str.ofString "^"))) (.cons (.lit (.str (Str.ofString "error"))) (.cons (.lit (.str (Str.ofString ""))) (.cons (.lit (.str (Str.ofString "end_of_file"))) (.cons (.lit (.str (Str.ofString "system"))) (.cons (.lit (.str (Str.ofString "$VAR"))) (.cons (.lit (.str (Str.ofString "catch"))) (.cons (.lit (.str (Str.ofString "throw"))) .nil))))))))))))))))))))))))))))))) .nil }
noncomputable def f67 : Fun := { npar := 0, dflt := [], nloc := 0, body := .cons (.ret (.tup (.cons (.tup (.cons (.lit (.str (Str.ofString "."))) (.cons (.lit (.int (2))) .nil))) (.cons (.tup (.cons (.lit (.str (Str.ofString ","))) (.cons (.lit (.int (2))) .nil))) (.cons (.tup (.cons (.lit (.str (Str.ofString ";"))) (.cons (.lit (.int (2))) .nil))) (.cons (.tup (.cons (.lit (.str (Str.ofString "->"))) (.cons (.lit (.int (2))) .nil))) (.cons (.tup (.cons (.lit (.str (Str.ofString "\\+"))) (.cons (.lit (.int (1))) .nil))) (.cons (.tup (.cons (.lit (.str (Str.ofString ":-"))) (.cons (.lit (.int (2))) .nil))) (.cons (.tup (.cons (.lit (.str (Str.ofString ":-"))) (.cons (.lit (.int (1))) .nil))) (.cons (.tup (.cons (.lit (.str (Str.ofString "?-"))) (.cons (.lit (.int (1))) .nil))) (.cons (.tup (.cons (.lit (.str (Str.ofString "-->"))) (.cons (.lit (.int (2))) .nil))) (.cons (.tup (.cons (.lit (.str (Str.ofString "{}"))) (.cons (.lit (.int (1))) .nil))) (.cons (.tup (.cons (.lit (.str (Str.ofString "="))) (.cons (.lit (.int (2))) .nil))) (.cons (.tup (.cons (.lit (.str (Str.ofString "^"))) (.cons (.lit (.int (2))) .nil))) (.cons (.tup (.cons (.lit (.str (Str.ofString "-"))) (.cons (.lit (.int (1))) .nil))) (.cons (.tup (.cons (.lit (.str (Str.ofString "-"))) (.cons (.lit (.int (2))) .nil))) (.cons (.tup (.cons (.lit (.str (Str.ofString "+"))) (.cons (.lit (.int (2))) .nil))) (.cons (.tup (.cons (.lit (.str (Str.ofString "/"))) (.cons (.lit (.int (2))) .nil))) (.cons (.tup (.cons (.lit (.str (Str.ofString "error"))) (.cons (.lit (.int (2))) .nil))) (.cons (.tup (.cons (.lit (.str (Str.ofString "$VAR"))) (.cons (.lit (.int (1))) .nil))) (.cons (.tup (.cons (.lit (.str (Str.ofString "catch"))) (.cons (.lit (.int (3))) .nil))) (.cons (.tup (.cons (.lit (.str (Str.ofString "throw"))) (.cons (.lit (.int (1))) .nil))) (.cons (.tup (.cons (.lit (.str (Str.ofString "!"))) (.cons (.lit (.int (0))) .nil))) (.cons (.tup (.cons (.lit (.str (Str.ofString "true"))) (.cons (.lit (.int (0))) .nil))) (.cons (.tup (.cons (.lit (.str (Str.ofString "fail"))) (.cons (.lit (.int (0))) .nil))) (.cons (.tup (.cons (.lit (.str (Str.ofString "false"))) (.cons (.lit (.int (0))) .nil))) (.cons (.tup (.cons (.lit (.str (Str.ofString "call"))) (.cons (.lit (.int (1))) .nil))) (.cons (.tup (.cons (.lit (.str (Str.ofString "call"))) (.cons (.lit (.int (2))) .nil))) (.cons (.tup (.cons (.lit (.str (Str.ofString "call"))) (.cons (.lit (.int (3))) .nil))) (.cons (.tup (.cons (.lit (.str (Str.ofString "call"))) (.cons (.lit (.int (4))) .nil))) (.cons (.tup (.cons (.lit (.str (Str.ofString "call"))) (.cons (.lit (.int (5))) .nil))) (.cons (.tup (.cons (.lit (.str (Str.ofString "call"))) (.cons (.lit (.int (6))) .nil))) (.cons (.tup (.cons (.lit (.str (Str.ofString "call"))) (.cons (.lit (.int (7))) .nil))) (.cons (.tup (.cons (.lit (.str (Str.ofString "call"))) (.cons (.lit (.int (8))) .nil))) .nil)))))))))))))))))))))))))))))))))) .nil }
noncomputable def f81 : Fun := { npar := 1, dflt := [], nloc := 3, body := .cons (.asgA (.loc 0) 4 (.list .nil)) (.cons (.asgA (.loc 0) 5 .dict0) (.cons (.asgA (.loc 0) 6 (.list .nil)) (.cons (.asgA (.loc 0) 7 .dict0) (.cons (.forr 1 (.callf 60 .nil) (.cons (.expr (.callm (.loc 0) 31 (.cons (.loc 1) .nil))) .nil)) (.cons (.forr 2 (.callf 67 .nil) (.cons (.expr (.callm (.loc 0) 34 (.cons (.sub (.loc 2) (.lit (.int (0)))) (.cons (.sub (.loc 2) (.lit (.int (1)))) .nil)))) .nil)) .nil))))) }
noncomputable def f88 : Fun := { npar := 2, dflt := [], nloc := 4, body := .cons (.asg 2 (.callm (.attr (.loc 0) 5) 2 (.cons (.loc 1) (.cons (.neg (.lit (.int (1)))) .nil)))) (.cons (.iff (.val (.cmp .ge (.loc 2) (.lit (.int (0))))) (.cons (.ret (.loc 2)) .nil) .nil) (.cons (.asg 3 (.prim .len (.cons (.attr (.loc 0) 4) .nil))) (.cons (.expr (.callm (.attr (.loc 0) 4) 0 (.cons (.loc 1) .nil))) (.cons (.asgS (.attr (.loc 0) 5) (.loc 1) (.loc 3)) (.cons (.ret (.loc 3)) .nil))))) }
noncomputable def f95 : Fun := { npar := 2, dflt := [], nloc := 2, body := .cons (.ret (.sub (.attr (.loc 0) 4) (.loc 1))) .nil }
noncomputable def f102 : Fun := { npar := 3, dflt := [], nloc := 6, body := .cons (.asg 3 (.tup (.cons (.loc 1) (.cons (.loc 2) .nil)))) (.cons (.asg 4 (.callm (.attr (.loc 0) 7) 2 (.cons (.loc 3) (.cons (.neg (.lit (.int (1)))) .nil)))) (.cons (.iff (.val (.cmp .ge (.loc 4) (.lit (.int (0))))) (.cons (.ret (.loc 4)) .nil) .nil) (.cons (.asg 5 (.prim .len (.cons (.attr (.loc 0) 6) .nil))) (.cons (.expr (.callm (.attr (.loc 0) 6) 0 (.cons (.loc 3) .nil))) (.cons (.asgS (.attr (.loc 0) 7) (.loc 3) (.loc 5)) (.cons (.ret (.loc 5)) .nil)))))) }
noncomputable def f109 : Fun := { npar := 3, dflt := [], nloc := 3, body := .cons (.ret (.callm (.loc 0) 33 (.cons (.callm (.loc 0) 31 (.cons (.loc 1) .nil)) (.cons (.loc 2) .nil)))) .nil }
noncomputable def f116 : Fun := { npar := 2, dflt := [], nloc := 2, body := .cons (.ret (.sub (.sub (.attr (.loc 0) 6) (.loc 1)) (.lit (.int (0))))) .nil }
noncomputable def f123 : Fun := { npar := 2, dflt := [], nloc := 2, body := .cons (.ret (.sub (.sub (.attr (.loc 0) 6) (.loc 1)) (.lit (.int (1))))) .nil }
noncomputable def f237 : Fun := { npar := 3, dflt := [], nloc := 3, body := .cons (.asgA (.loc 0) 8 (.loc 1)) (.cons (.asgA (.loc 0) 9 (.loc 2)) (.cons (.asgA (.loc 0) 10 (.list .nil)) (.cons (.asgA (.loc 0) 11 (.flist .nil)) (.cons (.asgA (.loc 0) 12 (.flist .nil)) (.cons (.asgA (.loc 0) 13 (.lit (.int (0)))) (.cons (.asgA (.loc 0) 14 (.lit (.int (0)))) .nil)))))) }
noncomputable def f244 : Fun := { npar := 2, dflt := [], nloc := 3, body := .cons (.asg 2 (.prim .len (.cons (.attr (.loc 0) 10) .nil))) (.cons (.iff (.val (.cmp .ge (.loc 2) (.attr (.loc 0) 9))) (.cons .stuck .nil) .nil) (.cons (.expr (.callm (.attr (.loc 0) 10) 0 (.cons (.loc 1) .nil))) (.cons (.ret (.loc 2)) .nil))) }
noncomputable def f251 : Fun := { npar := 1, dflt := [], nloc := 2, body := .cons (.asg 1 (.tup (.cons (.lit (.int (0))) (.cons (.prim .len (.cons (.attr (.loc 0) 10) .nil)) .nil)))) (.cons (.expr (.callm (.loc 0) 37 (.cons (.loc 1) .nil))) (.cons (.ret (.loc 1)) .nil)) }
noncomputable def f258 : Fun := { npar := 2, dflt := [], nloc := 4, body := .cons (.asg 2 (.prim .len (.cons (.attr (.loc 0) 10) .nil))) (.cons (.iff (.val (.cmp .gt (.bin .add (.loc 2) (.loc 1)) (.attr (.loc 0) 9))) (.cons .stuck .nil) .nil) (.cons (.forr 3 (.prim .range (.cons (.loc 1) .nil)) (.cons (.expr (.callm (.attr (.loc 0) 10) 0 (.cons (.tup (.cons (.lit (.int (0))) (.cons (.bin .add (.loc 2) (.loc 3)) .nil))) .nil))) .nil)) (.cons (.ret (.loc 2)) .nil))) }
noncomputable def f272 : Fun := { npar := 2, dflt := [], nloc := 4, body := .cons (.while (.val (.lit (.bool true))) (.cons (.asg 2 (.sub (.loc 1) (.lit (.int (0))))) (.cons (.iff (.val (.cmp .eq (.loc 2) (.lit (.int (0))))) (.cons (.asg 3 (.sub (.attr (.loc 0) 10) (.sub (.loc 1) (.lit (.int (1)))))) .nil) (.cons (.iff (.val (.cmp .eq (.loc 2) (.lit (.int (1))))) (.cons (.asg 3 (.sub (.attr (.loc 0) 11) (.sub (.loc 1) (.lit (.int (1)))))) .nil) (.cons (.ret (.loc 1)) .nil)) .nil)) (.cons (.iff (.val (.cmp .eq (.loc 3) (.loc 1))) (.cons (.ret (.loc 1)) .nil) .nil) (.cons (.asg 1 (.loc 3)) .nil))))) .nil }
noncomputable def f286 : Fun := { npar := 3, dflt := [], nloc := 4, body := .cons (.asg 3 (.sub (.loc 1) (.lit (.int (1))))) (.cons (.iff (.val (.cmp .eq (.sub (.loc 1) (.lit (.int (0)))) (.lit (.int (0))))) (.cons (.asgS (.attr (.loc 0) 10) (.loc 3) (.loc 2)) (.cons (.iff (.val (.cmp .lt (.loc 3) (.attr (.loc 0) 13))) (.cons (.expr (.callm (.attr (.loc 0) 12) 0 (.cons (.loc 3) .nil))) .nil) .nil) .nil)) (.cons (.asgS (.attr (.loc 0) 11) (.loc 3) (.loc 2)) (.cons (.iff (.val (.cmp .lt (.loc 3) (.attr (.loc 0) 14))) (.cons (.expr (.callm (.attr (.loc 0) 12) 0 (.cons (.bin .sub (.neg (.lit (.int (1)))) (.loc 3)) .nil))) .nil) .nil) .nil))) .nil) }
noncomputable def f300 : Fun := { npar := 2, dflt := [], nloc := 3, body := .cons (.asg 1 (.callm (.loc 0) 40 (.cons (.loc 1) .nil))) (.cons (.iff (.val (.cmp .eq (.sub (.loc 1) (.lit (.int (0)))) (.lit (.int (1))))) (.cons (.asg 2 (.callm (.loc 0) 38 .nil)) (.cons (.expr (.callm (.loc 0) 41 (.cons (.loc 1) (.cons (.loc 2) .nil)))) (.cons (.ret (.loc 2)) .nil))) .nil) (.cons (.ret (.loc 1)) .nil)) }
noncomputable def f335 : Fun := { npar := 2, dflt := [], nloc := 3, body := .cons (.asg 2 (.sub (.loc 1) (.lit (.int (0))))) (.cons (.iff (.val (.cmp .eq (.loc 2) (.lit (.int (2))))) (.cons (.ret (.sub (.sub (.attr (.loc 0) 10) (.sub (.loc 1) (.lit (.int (1))))) (.lit (.int (1))))) .nil) .nil) (.cons (.iff (.val (.cmp .eq (.loc 2) (.lit (.int (3))))) (.cons (.ret (.lit (.int (0)))) .nil) .nil) (.cons (.iff (.val (.cmp .eq (.loc 2) (.lit (.int (4))))) (.cons (.ret (.callm (.attr (.loc 0) 8) 33 (.cons (.sub (.loc 1) (.lit (.int (1)))) (.cons (.lit (.int (0))) .nil)))) .nil) .nil) (.cons (.ret (.neg (.lit (.int (1))))) .nil)))) }
noncomputable def f349 : Fun := { npar := 2, dflt := [], nloc := 2, body := .cons (.iff (.val (.cmp .eq (.sub (.loc 1) (.lit (.int (0)))) (.lit (.int (3))))) (.cons (.ret (.sub (.loc 1) (.lit (.int (1))))) .nil) .nil) (.cons (.ret (.bin .add (.sub (.loc 1) (.lit (.int (1)))) (.lit (.int (1))))) .nil) }
noncomputable def f356 : Fun := { npar := 3, dflt := [], nloc := 3, body := .cons (.ret (.sub (.attr (.loc 0) 10) (.bin .sub (.bin .add (.callm (.loc 0) 44 (.cons (.loc 1) .nil)) (.loc 2)) (.lit (.int (1)))))) .nil }
noncomputable def f363 : Fun := { npar := 2, dflt := [], nloc := 3, body := .cons (.iff (.val (.cmp .eq (.loc 1) (.lit (.int (0))))) (.cons (.ret (.tup (.cons (.lit (.int (3))) (.cons (.callm (.loc 0) 39 (.cons (.lit (.int (2))) .nil)) .nil)))) .nil) .nil) (.cons (.asg 2 (.callm (.loc 0) 39 (.cons (.bin .add (.lit (.int (1))) (.callm (.attr (.loc 0) 8) 36 (.cons (.loc 1) .nil))) .nil))) (.cons (.asgS (.attr (.loc 0) 10) (.loc 2) (.tup (.cons (.lit (.int (6))) (.cons (.loc 1) .nil)))) (.cons (.ret (.tup (.cons (.lit (.int (2))) (.cons (.loc 2) .nil)))) .nil))) }
noncomputable def f384 : Fun := { npar := 3, dflt := [], nloc := 8, body := .cons (.iff (.val (.cmp .eq (.prim .len (.cons (.loc 2) .nil)) (.lit (.int (0))))) (.cons (.ret (.tup (.cons (.lit (.int (4))) (.cons (.callm (.attr (.loc 0) 8) 35 (.cons (.loc 1) .nil)) .nil)))) .nil) .nil) (.cons (.asg 3 (.list .nil)) (.cons (.forr 4 (.loc 2) (.cons (.expr (.callm (.loc 3) 0 (.cons (.callm (.loc 0) 42 (.cons (.loc 4) .nil)) .nil))) .nil)) (.cons (.asg 5 (.callm (.loc 0) 46 (.cons (.loc 1) .nil))) (.cons (.asg 6 (.callm (.loc 0) 44 (.cons (.loc 5) .nil))) (.cons (.forr 7 (.loc 3) (.cons (.asgS (.attr (.loc 0) 10) (.loc 6) (.loc 7)) (.cons (.augL 6 (.lit (.int (1)))) .nil))) (.cons (.ret (.loc 5)) .nil)))))) }
noncomputable def f406 : Fun := { npar := 3, dflt := [], nloc := 12, body := .cons (.forr 3 (.prim .lst (.cons (.loc 2) .nil)) (.cons (.iff (.val (.cmp .eq (.sub (.sub (.loc 2) (.loc 3)) (.lit (.int (0)))) (.lit (.int (1))))) (.cons (.asgS (.loc 2) (.loc 3) (.callm (.loc 0) 42 (.cons (.sub (.loc 2) (.loc 3)) .nil))) .nil) .nil) .nil)) (.cons (.asg 4 (.sub (.loc 1) (.lit (.int (0))))) (.cons (.iff (.val (.cmp .eq (.loc 4) (.lit (.str (Str.ofString "v"))))) (.cons (.iff (.val (.cmp .notin (.sub (.loc 1) (.lit (.int (1)))) (.loc 2))) (.cons (.asgS (.loc 2) (.sub (.loc 1) (.lit (.int (1)))) (.callm (.loc 0) 38 .nil)) .nil) .nil) (.cons (.ret (.sub (.loc 2) (.sub (.loc 1) (.lit (.int (1)))))) .nil)) .nil) (.cons (.iff (.val (.cmp .eq (.loc 4) (.lit (.str (Str.ofString "a"))))) (.cons (.ret (.tup (.cons (.lit (.int (4))) (.cons (.sub (.loc 1) (.lit (.int (1)))) .nil)))) .nil) .nil) (.cons (.iff (.val (.cmp .eq (.loc 4) (.lit (.str (Str.ofString "i"))))) (.cons (.ret (.tup (.cons (.lit (.int (5))) (.cons (.sub (.loc 1) (.lit (.int (1)))) .nil)))) .nil) .nil) (.cons (.asg 5 (.callm (.loc 0) 46 (.cons (.sub (.loc 1) (.lit (.int (1)))) .nil))) (.cons (.asg 6 (.list (.cons (.tup (.cons (.callm (.loc 0) 44 (.cons (.loc 5) .nil)) (.cons (.sub (.loc 1) (.lit (.int (2)))) .nil))) .nil))) (.cons (.asg 7 (.lit (.int (0)))) (.cons (.while (.val (.cmp .lt (.loc 7) (.prim .len (.cons (.loc 6) .nil)))) (.cons (.asgT 8 9 (.sub (.loc 6) (.loc 7))) (.cons (.augL 7 (.lit (.int (1)))) (.cons (.forr 10 (.loc 9) (.cons (.asg 4 (.sub (.loc 10) (.lit (.int (0))))) (.cons (.iff (.val (.cmp .eq (.loc 4) (.lit (.str (Str.ofString "v"))))) (.cons (.iff (.val (.cmp .isin (.sub (.loc 10) (.lit (.int (1)))) (.loc 2))) (.cons (.asgS (.attr (.loc 0) 10) (.loc 8) (.sub (.loc 2) (.sub (.loc 10) (.lit (.int (1)))))) .nil) (.cons (.asgS (.loc 2) (.sub (.loc 10) (.lit (.int (1)))) (.tup (.cons (.lit (.int (0))) (.cons (.loc 8) .nil)))) .nil)) .nil) (.cons (.iff (.val (.cmp .eq (.loc 4) (.lit (.str (Str.ofString "a"))))) (.cons (.asgS (.attr (.loc 0) 10) (.loc 8) (.tup (.cons (.lit (.int (4))) (.cons (.sub (.loc 10) (.lit (.int (1)))) .nil)))) .nil) (.cons (.iff (.val (.cmp .eq (.loc 4) (.lit (.str (Str.ofString "i"))))) (.cons (.asgS (.attr (.loc 0) 10) (.loc 8) (.tup (.cons (.lit (.int (5))) (.cons (.sub (.loc 10) (.lit (.int (1)))) .nil)))) .nil) (.cons (.asg 11 (.callm (.loc 0) 46 (.cons (.sub (.loc 10) (.lit (.int (1)))) .nil))) (.cons (.asgS (.attr (.loc 0) 10) (.loc 8) (.loc 11)) (.cons (.expr (.callm (.loc 6) 0 (.cons (.tup (.cons (.callm (.loc 0) 44 (.cons (.loc 11) .nil)) (.cons (.sub (.loc 10) (.lit (.int (2)))) .nil))) .nil))) .nil)))) .nil)) .nil)) (.cons (.augL 8 (.lit (.int (1)))) .nil)))) .nil)))) (.cons (.ret (.loc 5)) .nil))))))))) }
noncomputable def f441 : Fun := { npar := 2, dflt := [], nloc := 2, body := .cons (.iff (.val (.cmp .eq (.loc 1) (.lit (.int (1))))) (.cons (.ret (.cmp .isin (.loc 0) (.lit (.tup [.str (Str.ofString "-"), .str (Str.ofString "+"), .str (Str.ofString "abs"), .str (Str.ofString "sign"), .str (Str.ofString "\\"), .str (Str.ofString "msb"), .str (Str.ofString "succ"), .str (Str.ofString "truncate"), .str (Str.ofString "round"), .str (Str.ofString "ceiling"), .str (Str.ofString "floor")])))) .nil) .nil) (.cons (.iff (.val (.cmp .eq (.loc 1) (.lit (.int (2))))) (.cons (.ret (.cmp .isin (.loc 0) (.lit (.tup [.str (Str.ofString "+"), .str (Str.ofString "-"), .str (Str.ofString "*"), .str (Str.ofString "//"), .str (Str.ofString "rem"), .str (Str.ofString "mod"), .str (Str.ofString "div"), .str (Str.ofString "min"), .str (Str.ofString "max"), .str (Str.ofString "gcd"), .str (Str.ofString ">>"), .str (Str.ofString "<<"), .str (Str.ofString "/\\"), .str (Str.ofString "\\/"), .str (Str.ofString "xor"), .str (Str.ofString "^"), .str (Str.ofString "**"), .str (Str.ofString "plus")])))) .nil) .nil) (.cons (.ret (.lit (.bool false))) .nil)) }
noncomputable def f448 : Fun := { npar := 2, dflt := [], nloc := 4, body := .cons (.asg 2 (.callm (.loc 0) 35 (.cons (.loc 1) .nil))) (.cons (.asg 3 (.callm (.loc 0) 36 (.cons (.loc 1) .nil))) (.cons (.iff (.not (.val (.callf 441 (.cons (.callm (.loc 0) 32 (.cons (.loc 2) .nil)) (.cons (.loc 3) .nil))))) (.cons .stuck .nil) .nil) .nil)) }
noncomputable def f455 : Fun := { npar := 3, dflt := [], nloc := 3, body := .cons (.iff (.val (.cmp .gt (.callm (.loc 1) 3 .nil) (.loc 2))) (.cons .stuck .nil) .nil) (.cons (.ret (.loc 1)) .nil) }
noncomputable def f511 : Fun := { npar := 3, dflt := [], nloc := 3, body := .cons (.iff (.val (.cmp .eq (.loc 1) (.lit (.str (Str.ofString "-"))))) (.cons (.ret (.neg (.loc 2))) .nil) .nil) (.cons (.iff (.val (.cmp .eq (.loc 1) (.lit (.str (Str.ofString "abs"))))) (.cons (.ret (.prim .abs (.cons (.loc 2) .nil))) .nil) .nil) (.cons (.iff (.val (.cmp .eq (.loc 1) (.lit (.str (Str.ofString "sign"))))) (.cons (.ret (.callf 504 (.cons (.loc 2) .nil))) .nil) .nil) (.cons (.iff (.val (.cmp .eq (.loc 1) (.lit (.str (Str.ofString "\\"))))) (.cons (.ret (.bin .sub (.neg (.loc 2)) (.lit (.int (1))))) .nil) .nil) (.cons (.iff (.val (.cmp .eq (.loc 1) (.lit (.str (Str.ofString "succ"))))) (.cons (.ret (.bin .add (.loc 2) (.lit (.int (1))))) .nil) .nil) (.cons (.iff (.val (.cmp .eq (.loc 1) (.lit (.str (Str.ofString "msb"))))) (.cons (.iff (.val (.cmp .lt (.loc 2) (.lit (.int (1))))) (.cons .stuck .nil) .nil) (.cons (.ret (.bin .sub (.callm (.loc 2) 3 .nil) (.lit (.int (1))))) .nil)) .nil) (.cons (.ret (.loc 2)) .nil)))))) }
noncomputable def f532 : Fun := { npar := 5, dflt := [], nloc := 5, body := .cons (.iff (.or (.cons (.val (.cmp .eq (.loc 1) (.lit (.str (Str.ofString "+"))))) (.cons (.val (.cmp .eq (.loc 1) (.lit (.str (Str.ofString "plus"))))) .nil))) (.cons (.ret (.bin .add (.loc 2) (.loc 3))) .nil) .nil) (.cons (.iff (.val (.cmp .eq (.loc 1) (.lit (.str (Str.ofString "-"))))) (.cons (.ret (.bin .sub (.loc 2) (.loc 3))) .nil) .nil) (.cons (.iff (.val (.cmp .eq (.loc 1) (.lit (.str (Str.ofString "*"))))) (.cons (.ret (.bin .mul (.loc 2) (.loc 3))) .nil) .nil) (.cons (.iff (.val (.cmp .isin (.loc 1) (.tup (.cons (.lit (.str (Str.ofString "//"))) (.cons (.lit (.str (Str.ofString "rem"))) (.cons (.lit (.str (Str.ofString "mod"))) (.cons (.lit (.str (Str.ofString "div"))) .nil))))))) (.cons (.ret (.callf 518 (.cons (.loc 0) (.cons (.loc 1) (.cons (.loc 2) (.cons (.loc 3) .nil)))))) .nil) .nil) (.cons (.iff (.or (.cons (.val (.cmp .eq (.loc 1) (.lit (.str (Str.ofString "^"))))) (.cons (.val (.cmp .eq (.loc 1) (.lit (.str (Str.ofString "**"))))) .nil))) (.cons (.ret (.callf 483 (.cons (.loc 0) (.cons (.loc 2) (.cons (.loc 3) (.cons (.loc 4) .nil)))))) .nil) .nil) (.cons (.iff (.val (.cmp .eq (.loc 1) (.lit (.str (Str.ofString "min"))))) (.cons (.iff (.val (.cmp .lt (.loc 3) (.loc 2))) (.cons (.ret (.loc 3)) .nil) .nil) (.cons (.ret (.loc 2)) .nil)) .nil) (.cons (.iff (.val (.cmp .eq (.loc 1) (.lit (.str (Str.ofString "max"))))) (.cons (.iff (.val (.cmp .gt (.loc 3) (.loc 2))) (.cons (.ret (.loc 3)) .nil) .nil) (.cons (.ret (.loc 2)) .nil)) .nil) (.cons (.iff (.val (.cmp .eq (.loc 1) (.lit (.str (Str.ofString "gcd"))))) (.cons (.ret (.callf 476 (.cons (.loc 2) (.cons (.loc 3) .nil)))) .nil) .nil) (.cons (.ret (.callf 525 (.cons (.loc 0) (.cons (.loc 1) (.cons (.loc 2) (.cons (.loc 3) (.cons (.loc 4) .nil))))))) .nil)))))))) }
noncomputable def f539 : Fun := { npar := 4, dflt := [], nloc := 8, body := .cons (.asg 4 (.callm (.loc 0) 32 (.cons (.callm (.loc 0) 35 (.cons (.loc 1) .nil)) .nil))) (.cons (.asg 5 (.callm (.loc 2) 1 .nil)) (.cons (.iff (.val (.cmp .eq (.callm (.loc 0) 36 (.cons (.loc 1) .nil)) (.lit (.int (1))))) (.cons (.asg 6 (.callf 511 (.cons (.loc 0) (.cons (.loc 4) (.cons (.loc 5) .nil))))) .nil) (.cons (.asg 7 (.callm (.loc 2) 1 .nil)) (.cons (.asg 6 (.callf 532 (.cons (.loc 0) (.cons (.loc 4) (.cons (.loc 7) (.cons (.loc 5) (.cons (.loc 3) .nil))))))) .nil))) (.cons (.expr (.callm (.loc 2) 0 (.cons (.callf 455 (.cons (.loc 0) (.cons (.loc 6) (.cons (.loc 3) .nil)))) .nil))) .nil))) }
noncomputable def f546 : Fun := { npar := 2, dflt := [], nloc := 10, body := .cons (.asg 2 (.attr (.loc 0) 18)) (.cons (.asg 3 (.attr (.loc 0) 8)) (.cons (.asg 4 .dict0) (.cons (.asg 5 (.list (.cons (.loc 1) .nil))) (.cons (.asg 6 (.list .nil)) (.cons (.while (.val (.loc 5)) (.cons (.asg 7 (.callm (.loc 5) 1 .nil)) (.cons (.iff (.val (.cmp .eq (.sub (.loc 7) (.lit (.int (0)))) (.lit (.int (6))))) (.cons (.expr (.callf 539 (.cons (.loc 3) (.cons (.sub (.sub (.attr (.loc 2) 10) (.sub (.loc 7) (.lit (.int (1))))) (.lit (.int (1)))) (.cons (.loc 6) (.cons (.attr (.loc 0) 17) .nil)))))) (.cons (.asgS (.loc 4) (.sub (.loc 7) (.lit (.int (1)))) (.sub (.loc 6) (.bin .sub (.prim .len (.cons (.loc 6) .nil)) (.lit (.int (1)))))) (.cons .cont .nil))) .nil) (.cons (.asg 7 (.callm (.loc 2) 40 (.cons (.loc 7) .nil))) (.cons (.iff (.val (.cmp .eq (.sub (.loc 7) (.lit (.int (0)))) (.lit (.int (5))))) (.cons (.expr (.callm (.loc 6) 0 (.cons (.sub (.loc 7) (.lit (.int (1)))) .nil))) .nil) (.cons (.iff (.val (.cmp .eq (.sub (.loc 7) (.lit (.int (0)))) (.lit (.int (4))))) (.cons .stuck .nil) (.cons (.iff (.val (.cmp .eq (.sub (.loc 7) (.lit (.int (0)))) (.lit (.int (3))))) (.cons .stuck .nil) (.cons (.iff (.val (.cmp .eq (.sub (.loc 7) (.lit (.int (0)))) (.lit (.int (2))))) (.cons (.iff (.val (.cmp .isin (.sub (.loc 7) (.lit (.int (1)))) (.loc 4))) (.cons (.iff (.val (.cmp .isnone (.sub (.loc 4) (.sub (.loc 7) (.lit (.int (1))))) (.lit .none))) (.cons .stuck .nil) .nil) (.cons (.expr (.callm (.loc 6) 0 (.cons (.sub (.loc 4) (.sub (.loc 7) (.lit (.int (1))))) .nil))) (.cons .cont .nil))) .nil) (.cons (.asg 8 (.callm (.loc 2) 43 (.cons (.loc 7) .nil))) (.cons (.expr (.callf 448 (.cons (.loc 3) (.cons (.loc 8) .nil)))) (.cons (.asgS (.loc 4) (.sub (.loc 7) (.lit (.int (1)))) (.lit .none)) (.cons (.expr (.callm (.loc 5) 0 (.cons (.tup (.cons (.lit (.int (6))) (.cons (.sub (.loc 7) (.lit (.int (1)))) .nil))) .nil))) (.cons (.forr 9 (.prim .range (.cons (.callm (.loc 3) 36 (.cons (.loc 8) .nil)) (.cons (.lit (.int (0))) (.cons (.neg (.lit (.int (1)))) .nil)))) (.cons (.expr (.callm (.loc 5) 0 (.cons (.callm (.loc 2) 45 (.cons (.loc 7) (.cons (.loc 9) .nil))) .nil))) .nil)) .nil)))))) (.cons .stuck .nil)) .nil)) .nil)) .nil)) .nil))))) (.cons (.ret (.sub (.loc 6) (.lit (.int (0))))) .nil)))))) }
noncomputable def f553 : Fun := { npar := 1, dflt := [], nloc := 2, body := .cons (.asg 1 (.callf 546 (.cons (.loc 0) (.cons (.callm (.loc 0) 45 (.cons (.lit (.int (1))) .nil)) .nil)))) (.cons (.ret (.cmp .eq (.loc 1) (.callf 546 (.cons (.loc 0) (.cons (.callm (.loc 0) 45 (.cons (.lit (.int (2))) .nil)) .nil))))) .nil) }
noncomputable def f560 : Fun := { npar := 1, dflt := [], nloc := 2, body := .cons (.asg 1 (.callf 546 (.cons (.loc 0) (.cons (.callm (.loc 0) 45 (.cons (.lit (.int (1))) .nil)) .nil)))) (.cons (.ret (.cmp .ne (.loc 1) (.callf 546 (.cons (.loc 0) (.cons (.callm (.loc 0) 45 (.cons (.lit (.int (2))) .nil)) .nil))))) .nil) }
noncomputable def f567 : Fun := { npar := 1, dflt := [], nloc := 2, body := .cons (.asg 1 (.callf 546 (.cons (.loc 0) (.cons (.callm (.loc 0) 45 (.cons (.lit (.int (1))) .nil)) .nil)))) (.cons (.ret (.cmp .lt (.loc 1) (.callf 546 (.cons (.loc 0) (.cons (.callm (.loc 0) 45 (.cons (.lit (.int (2))) .nil)) .nil))))) .nil) }
noncomputable def f574 : Fun := { npar := 1, dflt := [], nloc := 2, body := .cons (.asg 1 (.callf 546 (.cons (.loc 0) (.cons (.callm (.loc 0) 45 (.cons (.lit (.int (1))) .nil)) .nil)))) (.cons (.ret (.cmp .gt (.loc 1) (.callf 546 (.cons (.loc 0) (.cons (.callm (.loc 0) 45 (.cons (.lit (.int (2))) .nil)) .nil))))) .nil) }
noncomputable def f581 : Fun := { npar := 1, dflt := [], nloc := 2, body := .cons (.asg 1 (.callf 546 (.cons (.loc 0) (.cons (.callm (.loc 0) 45 (.cons (.lit (.int (1))) .nil)) .nil)))) (.cons (.ret (.cmp .le (.loc 1) (.callf 546 (.cons (.loc 0) (.cons (.callm (.loc 0) 45 (.cons (.lit (.int (2))) .nil)) .nil))))) .nil) }
noncomputable def f588 : Fun := { npar := 1, dflt := [], nloc := 2, body := .cons (.asg 1 (.callf 546 (.cons (.loc 0) (.cons (.callm (.loc 0) 45 (.cons (.lit (.int (1))) .nil)) .nil)))) (.cons (.ret (.cmp .ge (.loc 1) (.callf 546 (.cons (.loc 0) (.cons (.callm (.loc 0) 45 (.cons (.lit (.int (2))) .nil)) .nil))))) .nil) }
noncomputable def f603 : Fun := { npar := 6, dflt := [.int (100000), .bool true, .int (4096)], nloc := 6, body := .cons (.asgA (.loc 0) 8 (.loc 1)) (.cons (.asgA (.loc 0) 15 (.loc 2)) (.cons (.asgA (.loc 0) 9 (.loc 3)) (.cons (.asgA (.loc 0) 16 (.loc 4)) (.cons (.asgA (.loc 0) 17 (.loc 5)) (.cons (.expr (.callm (.loc 0) 49 .nil)) .nil))))) }
noncomputable def f610 : Fun := { npar := 1, dflt := [], nloc := 1, body := .cons (.asgA (.loc 0) 18 (.new 423 (.cons (.attr (.loc 0) 8) (.cons (.attr (.loc 0) 9) .nil)))) (.cons (.asgA (.loc 0) 19 (.list (.cons (.lit (.tup [.int (5), .int (0)])) .nil))) (.cons (.asgA (.loc 0) 20 (.lit (.int (0)))) (.cons (.asgA (.loc 0) 21 (.lit (.int (0)))) (.cons (.asgA (.loc 0) 22 (.neg (.lit (.int (1))))) (.cons (.asgA (.loc 0) 23 (.neg (.lit (.int (1))))) (.cons (.asgA (.loc 0) 24 (.neg (.lit (.int (1))))) (.cons (.asgA (.loc 0) 25 (.lit (.str (Str.ofString "read")))) (.cons (.asgA (.loc 0) 26 (.lit (.int (0)))) (.cons (.asgA (.loc 0) 27 (.lit (.tup [.int (5), .int (0)]))) (.cons (.asgA (.loc 0) 28 (.flist .nil)) (.cons (.asgA (.loc 0) 29 .dict0) (.cons (.asgA (.loc 0) 30 (.lit (.bool false))) .nil)))))))))))) }
noncomputable def f617 : Fun := { npar := 3, dflt := [], nloc := 3, body := .cons (.while (.val (.cmp .le (.prim .len (.cons (.attr (.loc 0) 19) .nil)) (.loc 1))) (.cons (.expr (.callm (.attr (.loc 0) 19) 0 (.cons (.lit (.tup [.int (5), .int (0)])) .nil))) .nil)) (.cons (.asgS (.attr (.loc 0) 19) (.loc 1) (.loc 2)) .nil) }
noncomputable def f624 : Fun := { npar := 2, dflt := [], nloc := 4, body := .cons (.asg 2 (.lit (.int (0)))) (.cons (.forr 3 (.loc 1) (.cons (.augL 2 (.lit (.int (1)))) (.cons (.expr (.callm (.loc 0) 50 (.cons (.loc 2) (.cons (.loc 3) .nil)))) .nil))) .nil) }
noncomputable def f631 : Fun := { npar := 2, dflt := [], nloc := 2, body := .cons (.ret (.callm (.attr (.loc 0) 18) 42 (.cons (.sub (.attr (.loc 0) 19) (.loc 1)) .nil))) .nil }
noncomputable def f652 : Fun := { npar := 2, dflt := [], nloc := 2, body := .cons (.ret (.callm (.attr (.loc 0) 18) 48 (.cons (.loc 1) (.cons .dict0 .nil)))) .nil }
noncomputable def f757 : Fun := { npar := 2, dflt := [], nloc := 3, body := .cons (.iff (.val (.cmp .eq (.sub (.loc 0) (.lit (.int (1)))) (.lit (.int (0))))) (.cons (.augS (.loc 0) (.lit (.int (2))) (.lit (.int (1)))) (.cons (.iff (.val (.cmp .ge (.sub (.loc 0) (.lit (.int (2)))) (.prim .len (.cons (.sub (.loc 0) (.lit (.int (0)))) .nil)))) (.cons (.augS (.loc 0) (.lit (.int (3))) (.lit (.int (1)))) (.cons (.ret (.bin .mod (.sub (.loc 0) (.lit (.int (3)))) (.loc 1))) .nil)) .nil) (.cons (.asgS (.loc 0) (.lit (.int (1))) (.prim .abs (.cons (.sub (.sub (.loc 0) (.lit (.int (0)))) (.sub (.loc 0) (.lit (.int (2))))) .nil))) .nil))) .nil) (.cons (.asg 2 (.bin .mod (.sub (.loc 0) (.lit (.int (1)))) (.loc 1))) (.cons (.asgS (.loc 0) (.lit (.int (1))) (.bin .fdiv (.sub (.loc 0) (.lit (.int (1)))) (.loc 1))) (.cons (.ret (.loc 2)) .nil))) }
noncomputable def f764 : Fun := { npar := 3, dflt := [], nloc := 7, body := .cons (.asg 3 (.callf 757 (.cons (.loc 0) (.cons (.lit (.int (6))) .nil)))) (.cons (.iff (.or (.cons (.val (.cmp .lt (.loc 3) (.lit (.int (2))))) (.cons (.val (.cmp .eq (.loc 2) (.lit (.int (0))))) .nil))) (.cons (.asg 4 (.callf 757 (.cons (.loc 0) (.cons (.lit (.int (5))) .nil)))) (.cons (.iff (.val (.cmp .lt (.loc 4) (.lit (.int (3))))) (.cons (.ret (.tup (.cons (.lit (.str (Str.ofString "v"))) (.cons (.loc 4) .nil)))) .nil) .nil) (.cons (.ret (.tup (.cons (.lit (.str (Str.ofString "i"))) (.cons (.ife (.val (.cmp .eq (.loc 4) (.lit (.int (3))))) (.bin .sub (.callf 757 (.cons (.loc 0) (.cons (.lit (.int (21))) .nil))) (.lit (.int (10)))) (.bin .sub (.callf 757 (.cons (.loc 0) (.cons (.bin .pow (.lit (.int (10))) (.lit (.int (20)))) .nil))) (.bin .mul (.lit (.int (5))) (.bin .pow (.lit (.int (10))) (.lit (.int (19))))))) .nil)))) .nil))) .nil) (.cons (.iff (.val (.cmp .eq (.loc 3) (.lit (.int (5))))) (.cons (.ret (.tup (.cons (.lit (.str (Str.ofString "s"))) (.cons (.lit (.int (12))) (.cons (.tup (.cons (.callf 764 (.cons (.loc 0) (.cons (.loc 1) (.cons (.bin .sub (.loc 2) (.lit (.int (1)))) .nil)))) .nil)) .nil))))) .nil) .nil) (.cons (.asg 5 (.sub (.flist (.cons (.lit (.int (14))) (.cons (.lit (.int (13))) (.cons (.loc 1) .nil)))) (.bin .sub (.loc 3) (.lit (.int (2)))))) (.cons (.asg 6 (.callf 764 (.cons (.loc 0) (.cons (.loc 1) (.cons (.bin .fdiv (.bin .sub (.loc 2) (.lit (.int (1)))) (.lit (.int (2)))) .nil))))) (.cons (.ret (.tup (.cons (.lit (.str (Str.ofString "s"))) (.cons (.loc 5) (.cons (.tup (.cons (.loc 6) (.cons (.callf 764 (.cons (.loc 0) (.cons (.loc 1) (.cons (.bin .fdiv (.loc 2) (.lit (.int (2)))) .nil)))) .nil))) .nil))))) .nil))))) }
noncomputable def f771 : Fun := { npar := 3, dflt := [], nloc := 10, body := .cons (.asg 3 (.callf 757 (.cons (.loc 0) (.cons (.lit (.int (5))) .nil)))) (.cons (.iff (.val (.cmp .ne (.sub (.loc 2) (.lit (.int (0)))) (.lit (.str (Str.ofString "s"))))) (.cons (.iff (.val (.cmp .eq (.loc 3) (.lit (.int (1))))) (.cons (.ret (.tup (.cons (.lit (.str (Str.ofString "s"))) (.cons (.lit (.int (14))) (.cons (.tup (.cons (.tup (.cons (.lit (.str (Str.ofString "i"))) (.cons (.lit (.int (0))) .nil))) (.cons (.loc 2) .nil))) .nil))))) .nil) .nil) (.cons (.iff (.val (.cmp .eq (.loc 3) (.lit (.int (2))))) (.cons (.ret (.tup (.cons (.lit (.str (Str.ofString "s"))) (.cons (.loc 1) (.cons (.tup (.cons (.loc 2) (.cons (.tup (.cons (.lit (.str (Str.ofString "i"))) (.cons (.lit (.int (1))) .nil))) .nil))) .nil))))) .nil) .nil) (.cons (.iff (.val (.cmp .eq (.loc 3) (.lit (.int (3))))) (.cons (.ret (.tup (.cons (.lit (.str (Str.ofString "s"))) (.cons (.lit (.int (12))) (.cons (.tup (.cons (.tup (.cons (.lit (.str (Str.ofString "s"))) (.cons (.lit (.int (12))) (.cons (.tup (.cons (.loc 2) .nil)) .nil)))) .nil)) .nil))))) .nil) .nil) (.cons (.iff (.val (.cmp .eq (.loc 3) (.lit (.int (4))))) (.cons (.asg 4 (.tup (.cons (.lit (.str (Str.ofString "i"))) (.cons (.bin .add (.lit (.int (1))) (.callf 757 (.cons (.loc 0) (.cons (.lit (.int (30))) .nil)))) .nil)))) (.cons (.ret (.tup (.cons (.lit (.str (Str.ofString "s"))) (.cons (.lit (.int (13))) (.cons (.tup (.cons (.tup (.cons (.lit (.str (Str.ofString "s"))) (.cons (.lit (.int (14))) (.cons (.tup (.cons (.loc 2) (.cons (.loc 4) .nil))) .nil)))) (.cons (.loc 4) .nil))) .nil))))) .nil)) .nil) (.cons (.ret (.loc 2)) .nil))))) .nil) (.cons (.iff (.val (.cmp .eq (.sub (.loc 2) (.lit (.int (1)))) (.lit (.int (12))))) (.cons (.asg 5 (.callf 771 (.cons (.loc 0) (.cons (.loc 1) (.cons (.sub (.sub (.loc 2) (.lit (.int (2)))) (.lit (.int (0)))) .nil))))) (.cons (.iff (.val (.cmp .eq (.loc 3) (.lit (.int (1))))) (.cons (.ret (.tup (.cons (.lit (.str (Str.ofString "s"))) (.cons (.lit (.int (13))) (.cons (.tup (.cons (.tup (.cons (.lit (.str (Str.ofString "i"))) (.cons (.lit (.int (0))) .nil))) (.cons (.loc 5) .nil))) .nil))))) .nil) .nil) (.cons (.iff (.val (.cmp .eq (.loc 3) (.lit (.int (2))))) (.cons (.ret (.tup (.cons (.lit (.str (Str.ofString "s"))) (.cons (.loc 1) (.cons (.tup (.cons (.tup (.cons (.lit (.str (Str.ofString "i"))) (.cons (.neg (.lit (.int (1)))) .nil))) (.cons (.loc 5) .nil))) .nil))))) .nil) .nil) (.cons (.ret (.tup (.cons (.lit (.str (Str.ofString "s"))) (.cons (.lit (.int (12))) (.cons (.tup (.cons (.loc 5) .nil)) .nil))))) .nil)))) .nil) (.cons (.asgT 6 7 (.sub (.loc 2) (.lit (.int (2))))) (.cons (.iff (.and (.cons (.val (.cmp .eq (.loc 3) (.lit (.int (1))))) (.cons (.val (.cmp .eq (.sub (.loc 2) (.lit (.int (1)))) (.loc 1))) (.cons (.val (.cmp .eq (.sub (.loc 7) (.lit (.int (0)))) (.lit (.str (Str.ofString "s"))))) (.cons (.val (.cmp .eq (.sub (.loc 7) (.lit (.int (1)))) (.lit (.int (14))))) .nil))))) (.cons (.asg 6 (.callf 771 (.cons (.loc 0) (.cons (.loc 1) (.cons (.loc 6) .nil))))) (.cons (.asg 8 (.tup (.cons (.lit (.str (Str.ofString "s"))) (.cons (.loc 1) (.cons (.tup (.cons (.loc 6) (.cons (.callf 771 (.cons (.loc 0) (.cons (.loc 1) (.cons (.sub (.sub (.loc 7) (.lit (.int (2)))) (.lit (.int (0)))) .nil)))) .nil))) .nil))))) (.cons (.ret (.tup (.cons (.lit (.str (Str.ofString "s"))) (.cons (.lit (.int (14))) (.cons (.tup (.cons (.loc 8) (.cons (.tup (.cons (.lit (.str (Str.ofString "s"))) (.cons (.loc 1) (.cons (.tup (.cons (.loc 6) (.cons (.callf 771 (.cons (.loc 0) (.cons (.loc 1) (.cons (.sub (.sub (.loc 7) (.lit (.int (2)))) (.lit (.int (1)))) .nil)))) .nil))) .nil)))) .nil))) .nil))))) .nil))) .nil) (.cons (.asg 6 (.callf 771 (.cons (.loc 0) (.cons (.loc 1) (.cons (.loc 6) .nil))))) (.cons (.asg 7 (.callf 771 (.cons (.loc 0) (.cons (.loc 1) (.cons (.loc 7) .nil))))) (.cons (.asg 9 (.tup (.cons (.lit (.str (Str.ofString "s"))) (.cons (.lit (.int (12))) (.cons (.tup (.cons (.loc 7) .nil)) .nil))))) (.cons (.iff (.val (.cmp .eq (.sub (.loc 2) (.lit (.int (1)))) (.lit (.int (13))))) (.cons (.iff (.val (.cmp .eq (.loc 3) (.lit (.int (2))))) (.cons (.ret (.tup (.cons (.lit (.str (Str.ofString "s"))) (.cons (.lit (.int (14))) (.cons (.tup (.cons (.loc 9) (.cons (.loc 6) .nil))) .nil))))) .nil) .nil) (.cons (.iff (.val (.cmp .eq (.loc 3) (.lit (.int (3))))) (.cons (.ret (.tup (.cons (.lit (.str (Str.ofString "s"))) (.cons (.lit (.int (12))) (.cons (.tup (.cons (.tup (.cons (.lit (.str (Str.ofString "s"))) (.cons (.lit (.int (13))) (.cons (.tup (.cons (.loc 7) (.cons (.loc 6) .nil))) .nil)))) .nil)) .nil))))) .nil) .nil) (.cons (.ret (.ife (.val (.cmp .eq (.loc 3) (.lit (.int (4))))) (.tup (.cons (.lit (.str (Str.ofString "s"))) (.cons (.lit (.int (14))) (.cons (.tup (.cons (.loc 6) (.cons (.loc 9) .nil))) .nil)))) (.tup (.cons (.lit (.str (Str.ofString "s"))) (.cons (.lit (.int (13))) (.cons (.tup (.cons (.loc 6) (.cons (.loc 7) .nil))) .nil)))))) .nil))) .nil) (.cons (.iff (.val (.cmp .eq (.loc 3) (.lit (.int (2))))) (.cons (.ret (.tup (.cons (.lit (.str (Str.ofString "s"))) (.cons (.sub (.loc 2) (.lit (.int (1)))) (.cons (.tup (.cons (.loc 7) (.cons (.loc 6) .nil))) .nil))))) .nil) .nil) (.cons (.iff (.val (.cmp .eq (.loc 3) (.lit (.int (3))))) (.cons (.iff (.val (.cmp .eq (.sub (.loc 2) (.lit (.int (1)))) (.loc 1))) (.cons (.ret (.tup (.cons (.lit (.str (Str.ofString "s"))) (.cons (.loc 1) (.cons (.tup (.cons (.tup (.cons (.lit (.str (Str.ofString "s"))) (.cons (.lit (.int (12))) (.cons (.tup (.cons (.loc 6) .nil)) .nil)))) (.cons (.loc 9) .nil))) .nil))))) .nil) .nil) (.cons (.ret (.tup (.cons (.lit (.str (Str.ofString "s"))) (.cons (.lit (.int (13))) (.cons (.tup (.cons (.loc 6) (.cons (.loc 9) .nil))) .nil))))) .nil)) .nil) (.cons (.ret (.tup (.cons (.lit (.str (Str.ofString "s"))) (.cons (.sub (.loc 2) (.lit (.int (1)))) (.cons (.tup (.cons (.loc 6) (.cons (.loc 7) .nil))) .nil))))) .nil))))))))))) }
noncomputable def f776 : Fun := { npar := 2, dflt := [], nloc := 3, body := .cons (.iff (.val (.cmp .eq (.sub (.loc 0) (.lit (.int (0)))) (.lit (.str (Str.ofString "v"))))) (.cons (.ret (.sub (.loc 1) (.sub (.loc 0) (.lit (.int (1)))))) .nil) .nil) (.cons (.iff (.val (.cmp .eq (.sub (.loc 0) (.lit (.int (0)))) (.lit (.str (Str.ofString "i"))))) (.cons (.ret (.sub (.loc 0) (.lit (.int (1))))) .nil) .nil) (.cons (.asg 2 (.mapf 776 (.sub (.loc 0) (.lit (.int (2)))) 1)) (.cons (.iff (.val (.cmp .eq (.sub (.loc 0) (.lit (.int (1)))) (.lit (.int (12))))) (.cons (.ret (.neg (.sub (.loc 2) (.lit (.int (0)))))) .nil) .nil) (.cons (.iff (.val (.cmp .eq (.sub (.loc 0) (.lit (.int (1)))) (.lit (.int (14))))) (.cons (.ret (.bin .add (.sub (.loc 2) (.lit (.int (0)))) (.sub (.loc 2) (.lit (.int (1)))))) .nil) .nil) (.cons (.ret (.ife (.val (.cmp .eq (.sub (.loc 0) (.lit (.int (1)))) (.lit (.int (13))))) (.bin .sub (.sub (.loc 2) (.lit (.int (0)))) (.sub (.loc 2) (.lit (.int (1))))) (.bin .mul (.sub (.loc 2) (.lit (.int (0)))) (.sub (.loc 2) (.lit (.int (1))))))) .nil))))) }
noncomputable def f783 : Fun := { npar := 1, dflt := [], nloc := 15, body := .cons (.asg 1 (.list (.cons (.slice (.loc 0) 63) (.cons (.lit (.int (0))) (.cons (.neg (.lit (.int (1)))) (.cons (.lit (.int (0))) .nil)))))) (.cons (.asg 2 (.new 154 .nil)) (.cons (.asg 3 (.callm (.loc 2) 34 (.cons (.lit (.str (Str.ofString "*"))) (.cons (.lit (.int (2))) .nil)))) (.cons (.asg 4 (.callf 764 (.cons (.loc 1) (.cons (.loc 3) (.cons (.lit (.int (4))) .nil))))) (.cons (.asg 5 (.callf 771 (.cons (.loc 1) (.cons (.loc 3) (.cons (.loc 4) .nil))))) (.cons (.asg 6 (.flist (.cons (.bin .sub (.callf 757 (.cons (.loc 1) (.cons (.bin .pow (.lit (.int (10))) (.lit (.int (20)))) .nil))) (.bin .mul (.lit (.int (5))) (.bin .pow (.lit (.int (10))) (.lit (.int (19)))))) (.cons (.bin .sub (.callf 757 (.cons (.loc 1) (.cons (.lit (.int (41))) .nil))) (.lit (.int (20)))) (.cons (.neg (.callf 757 (.cons (.loc 1) (.cons (.bin .pow (.lit (.int (10))) (.lit (.int (9)))) .nil)))) .nil))))) (.cons (.asg 7 (.tup (.cons (.lit (.str (Str.ofString "i"))) (.cons (.bin .add (.lit (.int (1))) (.callf 757 (.cons (.loc 1) (.cons (.bin .pow (.lit (.int (10))) (.lit (.int (9)))) .nil)))) .nil)))) (.cons (.asg 8 (.new 746 (.cons (.loc 2) (.cons (.flist .nil) .nil)))) (.cons (.asg 9 .dict0) (.cons (.forr 10 (.prim .range (.cons (.lit (.int (3))) .nil)) (.cons (.asgS (.loc 9) (.loc 10) (.callm (.attr (.loc 8) 18) 38 .nil)) (.cons (.expr (.callm (.attr (.loc 8) 18) 41 (.cons (.sub (.loc 9) (.loc 10)) (.cons (.tup (.cons (.lit (.int (5))) (.cons (.sub (.loc 6) (.loc 10)) .nil))) .nil)))) .nil))) (.cons (.asg 11 (.callm (.attr (.loc 8) 18) 48 (.cons (.loc 4) (.cons (.loc 9) .nil)))) (.cons (.asg 12 (.callm (.attr (.loc 8) 18) 48 (.cons (.loc 5) (.cons (.loc 9) .nil)))) (.cons (.asg 13 (.callm (.attr (.loc 8) 18) 47 (.cons (.lit (.int (14))) (.cons (.flist (.cons (.loc 12) (.cons (.callm (.loc 8) 52 (.cons (.loc 7) .nil)) .nil))) .nil)))) (.cons (.asg 14 (.tup (.cons (.lit (.int (5))) (.cons (.callf 776 (.cons (.loc 4) (.cons (.loc 6) .nil))) .nil)))) (.cons (.expr (.callm (.loc 8) 51 (.cons (.flist (.cons (.loc 11) (.cons (.loc 12) .nil))) .nil))) (.cons (.iff (.or (.cons (.not (.val (.callf 553 (.cons (.loc 8) .nil)))) (.cons (.val (.callf 560 (.cons (.loc 8) .nil))) (.cons (.not (.val (.callf 581 (.cons (.loc 8) .nil)))) (.cons (.not (.val (.callf 588 (.cons (.loc 8) .nil)))) .nil))))) (.cons (.ret (.lit (.bool false))) .nil) .nil) (.cons (.expr (.callm (.loc 8) 51 (.cons (.flist (.cons (.loc 14) (.cons (.loc 12) .nil))) .nil))) (.cons (.iff (.not (.val (.callf 553 (.cons (.loc 8) .nil)))) (.cons (.ret (.lit (.bool false))) .nil) .nil) (.cons (.expr (.callm (.loc 8) 51 (.cons (.flist (.cons (.loc 11) (.cons (.loc 13) .nil))) .nil))) (.cons (.iff (.or (.cons (.not (.val (.callf 567 (.cons (.loc 8) .nil)))) (.cons (.val (.callf 588 (.cons (.loc 8) .nil))) .nil))) (.cons (.ret (.lit (.bool false))) .nil) .nil) (.cons (.expr (.callm (.loc 8) 51 (.cons (.flist (.cons (.loc 13) (.cons (.loc 11) .nil))) .nil))) (.cons (.ret (.and (.callf 574 (.cons (.loc 8) .nil)) (.not (.callf 581 (.cons (.loc 8) .nil))))) .nil))))))))))))))))))))) }
noncomputable def lkF (f : Nat) : List (Nat × Fun) → Option Fun
  | [] => none
  | p :: r => match Nat.beq p.1 f with
    | true => some p.2
    | false => lkF f r
theorem lkF_mem {f : Nat} {d : Fun} : ∀ {l : List (Nat × Fun)}, lkF f l = some d → f ∈ l.map (·.1)
  | [], h => nomatch h
  | p :: r, h => by
    unfold lkF at h
    split at h
    · rename_i e; rw [List.map_cons, Nat.eq_of_beq_eq_true e]; exact .head _
    · exact .tail _ (lkF_mem h)
noncomputable def ppL : List (Nat × Fun) := [(60, f60), (67, f67), (81, f81), (88, f88), (95, f95), (102, f102), (109, f109), (116, f116), (123, f123), (237, f237), (244, f244), (251, f251), (258, f258), (272, f272), (286, f286), (300, f300), (335, f335), (349, f349), (356, f356), (363, f363), (384, f384), (406, f406), (441, f441), (448, f448), (455, f455), (511, f511), (532, f532), (539, f539), (546, f546), (553, f553), (560, f560), (567, f567), (574, f574), (581, f581), (588, f588), (603, f603), (610, f610), (617, f617), (624, f624), (631, f631), (652, f652), (757, f757), (764, f764), (771, f771), (776, f776), (783, f783)]
noncomputable def PP (f : Nat) : Option Fun := lkF f ppL

end Mine
end

section
open PySem PySem.W PyProof.Rows PySem.Calls Mine
set_option Elab.async false
set_option maxRecDepth 100000
set_option linter.unusedVariables false
set_option maxHeartbeats 8000000

namespace Mine

/-! ## the tables, the defaults -/
theorem mem_lk {α β : Type} [BEq α] [LawfulBEq α] : ∀ {l : List (α × β)} {a : α} {b : β}, l.lookup a = some b → (a, b) ∈ l
  | [], _, _, h => by cases h
  | (x, y) :: r, a, b, h => by
    rw [List.lookup_cons] at h
    cases e : a == x with
    | true => rw [e] at h; cases h; rw [eq_of_beq e]; exact .head _
    | false => rw [e] at h; exact .tail _ (mem_lk h)

/-! ## the tables on the fragment -/
noncomputable def chkFld (K : Frag) : Bool := fldL.all fun p => p.2.all fun a => match Mine.attrL[a]? with
  | some x => attrOk K p.1 x
  | none => true
noncomputable def chkMth (K : Frag) : Bool := mthL.all fun p => p.2.all fun q => match Mine.attrL[q.1]? with
  | some x => mthOk K p.1 x q.2
  | none => true
noncomputable def chkIni (K : Frag) : Bool := iniL.all fun p => iniOk K p.1 p.2
noncomputable def chkDef (K : Frag) : Bool := fnL.all fun p => (noDef K p.1 && p.2.isEmpty) || (decide (p.1 = 237) || decide (p.1 = 603))

theorem fld_of {K : Frag} (h : chkFld K = true) (C a : Nat) (x : Str) (h1 : tab.fld C a = true) (h2 : Mine.attrL[a]? = some x) : attrOk K C x = true := by
  have h1 : (match fldL.lookup C with | some l => l.contains a | none => false) = true := h1
  split at h1
  · rename_i l hl
    have := List.all_eq_true.mp h _ (mem_lk hl)
    have := List.all_eq_true.mp this a (List.contains_iff_mem.mp h1)
    rw [h2] at this
    exact this
  · cases h1
theorem mth_of {K : Frag} (h : chkMth K = true) (C a : Nat) (x : Str) (f : Addr) (h1 : tab.mth C a = some f) (h2 : Mine.attrL[a]? = some x) : mthOk K C x f = true := by
  have h1 : ((mthL.lookup C).bind fun l => l.lookup a) = some f := h1
  obtain ⟨l, hl, hf⟩ := Option.bind_eq_some_iff.mp h1
  have := List.all_eq_true.mp h _ (mem_lk hl)
  have := List.all_eq_true.mp this _ (mem_lk hf)
  rw [h2] at this
  exact this
theorem ini_of {K : Frag} (h : chkIni K = true) (C : Nat) (f : Addr) (h1 : tab.ini C = some f) : iniOk K C f = true := by
  have h1 : iniL.lookup C = some f := h1
  exact List.all_eq_true.mp h _ (mem_lk h1)

theorem pp_mem {f : Nat} {d : Fun} (h : PP f = some d) : ∃ dfl, (f, dfl) ∈ fnL := by
  have e : ppL.map (·.1) = fnL.map (·.1) := by decide +kernel
  have := lkF_mem h
  rw [e] at this
  obtain ⟨⟨a, b⟩, hm, rfl⟩ := List.mem_map.mp this
  exact ⟨b, hm⟩

/-! ## defaults -/
noncomputable def gvb : List Value → Option (List MV)
  | [] => some []
  | .int i _ :: r => (gvb r).map (.int i :: ·)
  | .bool b :: r => (gvb r).map (.bool b :: ·)
  | _ => none
theorem gvb_is {g : Heap} {ρ : Locs} : ∀ {vs : List Value} {xs : List MV}, gvb vs = some xs → IsAll g ρ xs vs
  | [], _, h => by cases h; exact .nil
  | v :: r, xs, h => by
    unfold gvb at h
    split at h
    · rename_i e; cases e
    · rename_i e; cases e
      obtain ⟨ys, hy, rfl⟩ := Option.map_eq_some_iff.mp h
      exact .cons (.int _ _) (gvb_is hy)
    · rename_i e; cases e
      obtain ⟨ys, hy, rfl⟩ := Option.map_eq_some_iff.mp h
      exact .cons (.bool _) (gvb_is hy)
    · cases h
noncomputable def dflOf (K : Frag) (f : Nat) : Option (List Str × Bool × List MV) := match fnRow K f with
  | some (fd, _) => (match fd.defaults with
    | .ref T => (match K.lookup T with
      | some ⟨_, _, .seq items _, _⟩ => (gvb items.toList).map fun l => (parNames fd, simpleParams fd.params, l)
      | _ => none)
    | _ => none)
  | none => none

theorem dfl_row {K : Frag} {f : Nat} {x : List Str × Bool × List MV} (h : dflOf K f = some x) {fd : FuncData} {b : List Stmt} (hr : fnRow K f = some (fd, b)) :
    parNames fd = x.1 ∧ simpleParams fd.params = x.2.1 ∧ ∃ T o items n, fd.defaults = .ref T ∧ K.lookup T = some o ∧ o.data = .seq items n ∧ gvb items.toList = some x.2.2 := by
  unfold dflOf at h
  rw [hr] at h
  dsimp only at h
  split at h
  · rename_i T hT
    split at h
    · rename_i hl
      obtain ⟨l, hg, rfl⟩ := Option.map_eq_some_iff.mp h
      exact ⟨rfl, rfl, T, _, _, _, hT, hl, rfl, hg⟩
    · cases h
  · cases h

section
variable {s : Shared} {fd : FuncData} {T : Addr} {o : Obj} {n : Nat}
theorem simple_of {p : Arguments} (hp : simpleParams p = true) : p.posonlyargs = [] ∧ p.kwonlyargs = [] ∧ p.vararg = none ∧ p.kwarg = none := by
  unfold simpleParams at hp
  simp only [Bool.and_eq_true, List.isEmpty_iff, Option.isNone_iff_eq_none] at hp
  exact ⟨hp.1.1.1, hp.1.1.2, hp.1.2, hp.2⟩
theorem map_cons_of {l : List Arg} {x : Str} {r : List Str} (h : l.map (·.arg) = x :: r) : ∃ a t, l = a :: t ∧ a.arg = x ∧ t.map (·.arg) = r := by
  cases l with
  | nil => cases h
  | cons a t => injection h with h1 h2; exact ⟨a, t, rfl, h1, h2⟩
theorem bind_237 {d1 : Value} {items : Array Value} (hp : simpleParams fd.params = true) (hd : fd.defaults = .ref T) (ho : s.heap.get? T = some o) (hs : o.data = .seq items n) (hl : items.toList = [d1])
    (hn : parNames fd = [Str.ofString "self", Str.ofString "symbols", Str.ofString "max_heap"]) : ∀ a b c : Value, BindsTo s fd ⟨[a, b, c], []⟩ [(Str.ofString "self", a), (Str.ofString "symbols", b), (Str.ofString "max_heap", c)] := by
  obtain ⟨nm, qn, ⟨po, args, va, ko, kd, kw, df⟩, bd, sc, gl, cl, dV, kV, doc, pm, an, cd, ct, bl⟩ := fd
  obtain ⟨h1, h2, h3, h4⟩ := simple_of hp
  obtain ⟨l⟩ := items
  cases h1; cases h2; cases h3; cases h4; cases hd; cases hl
  have hn : args.map (·.arg) = _ := hn
  obtain ⟨⟨_, _, _⟩, _, rfl, rfl, h10⟩ := map_cons_of hn
  obtain ⟨⟨_, _, _⟩, _, rfl, rfl, h11⟩ := map_cons_of h10
  obtain ⟨⟨_, _, _⟩, _, rfl, rfl, h12⟩ := map_cons_of h11
  cases List.map_eq_nil_iff.mp h12
  exact fun a b c => BindsTo.of_defaults rfl ho hs rfl rfl
theorem bind_603 {d1 d2 d3 : Value} {items : Array Value} (hp : simpleParams fd.params = true) (hd : fd.defaults = .ref T) (ho : s.heap.get? T = some o) (hs : o.data = .seq items n) (hl : items.toList = [d1, d2, d3])
    (hn : parNames fd = [Str.ofString "self", Str.ofString "symbols", Str.ofString "code", Str.ofString "max_heap", Str.ofString "occurs", Str.ofString "max_bits"]) : (∀ a b c : Value, BindsTo s fd ⟨[a, b, c], []⟩ [(Str.ofString "self", a), (Str.ofString "symbols", b), (Str.ofString "code", c), (Str.ofString "max_heap", d1), (Str.ofString "occurs", d2), (Str.ofString "max_bits", d3)]) ∧
    (∀ a b c d : Value, BindsTo s fd ⟨[a, b, c, d], []⟩ [(Str.ofString "self", a), (Str.ofString "symbols", b), (Str.ofString "code", c), (Str.ofString "max_heap", d), (Str.ofString "occurs", d2), (Str.ofString "max_bits", d3)]) ∧
    (∀ a b c d e : Value, BindsTo s fd ⟨[a, b, c, d, e], []⟩ [(Str.ofString "self", a), (Str.ofString "symbols", b), (Str.ofString "code", c), (Str.ofString "max_heap", d), (Str.ofString "occurs", e), (Str.ofString "max_bits", d3)]) ∧
    (∀ a b c d e f : Value, BindsTo s fd ⟨[a, b, c, d, e, f], []⟩ [(Str.ofString "self", a), (Str.ofString "symbols", b), (Str.ofString "code", c), (Str.ofString "max_heap", d), (Str.ofString "occurs", e), (Str.ofString "max_bits", f)]) := by
  obtain ⟨nm, qn, ⟨po, args, va, ko, kd, kw, df⟩, bd, sc, gl, cl, dV, kV, doc, pm, an, cd, ct, bl⟩ := fd
  obtain ⟨h1, h2, h3, h4⟩ := simple_of hp
  obtain ⟨l⟩ := items
  cases h1; cases h2; cases h3; cases h4; cases hd; cases hl
  have hn : args.map (·.arg) = _ := hn
  obtain ⟨⟨_, _, _⟩, _, rfl, rfl, h10⟩ := map_cons_of hn
  obtain ⟨⟨_, _, _⟩, _, rfl, rfl, h11⟩ := map_cons_of h10
  obtain ⟨⟨_, _, _⟩, _, rfl, rfl, h12⟩ := map_cons_of h11
  obtain ⟨⟨_, _, _⟩, _, rfl, rfl, h13⟩ := map_cons_of h12
  obtain ⟨⟨_, _, _⟩, _, rfl, rfl, h14⟩ := map_cons_of h13
  obtain ⟨⟨_, _, _⟩, _, rfl, rfl, h15⟩ := map_cons_of h14
  cases List.map_eq_nil_iff.mp h15
  exact ⟨fun a b c => BindsTo.of_defaults rfl ho hs rfl rfl, fun a b c d => BindsTo.of_defaults rfl ho hs rfl rfl, fun a b c d e => BindsTo.of_defaults rfl ho hs rfl rfl, fun a b c d e f => BindsTo.of_defaults rfl ho hs rfl rfl⟩
end

theorem isAll_3 {g : Heap} {ρ : Locs} {vs : List MV} {us : List Value} (h : IsAll g ρ vs us) (hl : vs.length = 3) : ∃ a b c, us = [a, b, c] := by
  have e := h.length
  match us, e with
  | [a, b, c], _ => exact ⟨a, b, c, rfl⟩
  | [], e => have e' : vs.length = 0 := e; omega
  | [_], e => have e' : vs.length = 1 := e; omega
  | [_, _], e => have e' : vs.length = 2 := e; omega
  | _ :: _ :: _ :: _ :: _, e => simp only [List.length_cons] at e; omega

theorem items_1 {l : List Value} {z : Int} (h : gvb l = some [.int z]) : ∃ d, l = [d] := by
  have e := (gvb_is (g := default) (ρ := []) h).length
  match l, e with
  | [a], _ => exact ⟨a, rfl⟩
  | [], e => simp at e
  | _ :: _ :: _, e => simp at e
theorem items_3 {l : List Value} {x y z : MV} (h : gvb l = some [x, y, z]) : ∃ a b c, l = [a, b, c] := by
  have e := (gvb_is (g := default) (ρ := []) h).length
  match l, e with
  | [a, b, c], _ => exact ⟨a, b, c, rfl⟩
  | [], e => simp at e
  | [_], e => simp at e
  | [_, _], e => simp at e
  | _ :: _ :: _ :: _ :: _, e => simp at e

theorem all_237 {c : Cfg} (KI : c.K.In c.g₀) (h : dflOf c.K 237 = some ([Str.ofString "self", Str.ofString "symbols", Str.ofString "max_heap"], true, [.int 100000])) : BindAll c 237 [] := by
  intro fd b hr s g ρ vs us s1 s2 hi l1 l2
  obtain ⟨hn, hp, T, o, items, n, hd, hK, hs, hg⟩ := dfl_row h hr
  obtain ⟨d, hd1⟩ := items_1 hg
  have hlen : (parNames fd).length = 3 := by rw [hn]; rfl
  have l2' : (parNames fd).length ≤ vs.length + 0 := l2
  obtain ⟨x, y, z, rfl⟩ := isAll_3 hi (by omega)
  refine ⟨[x, y, z], ?_, by simpa using hi⟩
  rw [hn]
  exact bind_237 hp hd (s1 _ _ (s2 _ _ (KI _ _ hK))) hs hd1 hn x y z

theorem all_603 {c : Cfg} (KI : c.K.In c.g₀) (h : dflOf c.K 603 = some ([Str.ofString "self", Str.ofString "symbols", Str.ofString "code", Str.ofString "max_heap", Str.ofString "occurs", Str.ofString "max_bits"], true, [.int 100000, .bool true, .int 4096])) : BindAll c 603 [.int 100000, .bool true, .int 4096] := by
  intro fd b hr s g ρ vs us s1 s2 hi l1 l2
  obtain ⟨hn, hp, T, o, items, n, hd, hK, hs, hg⟩ := dfl_row h hr
  have hg : gvb items.toList = some [.int 100000, .bool true, .int 4096] := hg
  obtain ⟨d1, d2, d3, hd1⟩ := items_3 hg
  have hlen : (parNames fd).length = 6 := by rw [hn]; rfl
  have l2' : (parNames fd).length ≤ vs.length + 3 := l2
  have hT := s1 _ _ (s2 _ _ (KI _ _ hK))
  have hi' := hi
  have ha := gvb_is (g := g) (ρ := ρ) hg
  rw [hd1] at ha
  have hlv := hi.length
  rw [hlen, hn]
  match us, hi, hlv with
  | [a, b, c], hi, hlv =>
    refine ⟨[a, b, c, d1, d2, d3], (bind_603 hp hd hT hs hd1 hn).1 a b c, ?_⟩
    have e : vs.length = 3 := hlv
    rw [e]
    exact hi.append ha
  | [a, b, c, e1], hi, hlv =>
    refine ⟨[a, b, c, e1, d2, d3], (bind_603 hp hd hT hs hd1 hn).2.1 a b c e1, ?_⟩
    have e : vs.length = 4 := hlv
    rw [e]
    cases ha with | cons _ ha => exact hi.append ha
  | [a, b, c, e1, e2], hi, hlv =>
    refine ⟨[a, b, c, e1, e2, d3], (bind_603 hp hd hT hs hd1 hn).2.2.1 a b c e1 e2, ?_⟩
    have e : vs.length = 5 := hlv
    rw [e]
    cases ha with | cons _ ha => cases ha with | cons _ ha => exact hi.append ha
  | [a, b, c, e1, e2, e3], hi, hlv =>
    refine ⟨[a, b, c, e1, e2, e3], (bind_603 hp hd hT hs hd1 hn).2.2.2 a b c e1 e2 e3, ?_⟩
    have e : vs.length = 6 := hlv
    rw [e]
    exact hi.append .nil
  | [], hi, hlv => have e' : vs.length = 0 := hlv; omega
  | [_], hi, hlv => have e' : vs.length = 1 := hlv; omega
  | [_, _], hi, hlv => have e' : vs.length = 2 := hlv; omega
  | _ :: _ :: _ :: _ :: _ :: _ :: _ :: _, hi, hlv => simp only [List.length_cons] at hlv; omega

noncomputable def nm237 : List Str := [Str.ofString "self", Str.ofString "symbols", Str.ofString "max_heap"]
noncomputable def nm603 : List Str := [Str.ofString "self", Str.ofString "symbols", Str.ofString "code", Str.ofString "max_heap", Str.ofString "occurs", Str.ofString "max_bits"]

end Mine
end

section
open PySem PySem.W PyProof.Rows
set_option Elab.async false
set_option maxRecDepth 100000
set_option maxHeartbeats 0
set_option linter.unusedVariables false

namespace Mine
noncomputable section

/-! ## the run of the top, at once -/
noncomputable abbrev rw0 : OpenLaw := PySem.Challenge.rw_sa0167_01
noncomputable abbrev pw0 : Program := PySem.Challenge.rw_sa0167_01.row.toRowW.1
noncomputable def q0 : Pos := { line := 0, col := 0, endLine := 0, endCol := 0 }
noncomputable def qE : Pos := { line := 644, col := 0, endLine := 671, endCol := 54 }
noncomputable def envT : Env := { scope := pw0.main.scope, locals := mainNs, globals := mainNs, cells := [], code := .ref 13, frame := some 14 }
noncomputable abbrev codeT : Code := .body (behindTheImports pw0) envT
noncomputable abbrev frT : List Frame := [topFrame q0]
noncomputable def annT : Option Value := some (.ref 6)

noncomputable def oA : Obj := { cls := .type "tuple", data := .seq #[] }
noncomputable def oB : Obj := { cls := .none, data := .fields #[] }
noncomputable def oC : Obj :=
  { cls := .type "code",
    data := .fields #[.str (Str.ofString "<module>") 182, .str (Str.ofString "<module>") 183, .str (Str.ofString "/claim/cut.py") 184, .int 1 0, .int 0 0, .int 0 0, .int 0 0, .int 0 0, .ref 11, .bool false, .int 181 0, .ref 12, .none, .none,
          .none, .none, .int 185 0, .int 1 0, .str (Str.ofString "/claim/cut.py") 186] }
noncomputable def oD : Obj := { cls := .type "frame", slots := #[some (.ref 13), some (.ref 3), some (.ref 3), none, some (.str (Str.ofString "__main__") 164), none, some (.ref 0)] }

noncomputable def heapA (P : Params) : Heap := { objs := ⟨[boot_o_0 P, boot_o_1 P, boot_o_2 P, boot_o_3 P, boot_o_4 P, boot_o_5 P, boot_o_6 P, boot_o_7 P, boot_o_8 P, boot_o_9 P, boot_o_10 P, oA, oB, oC, oD]⟩ }
noncomputable def treeA (P : Params) : BT :=
  .node (boot_o_0 P)
    (.node (boot_o_1 P)
      (.node (boot_o_3 P) (.node (boot_o_7 P) .nil .nil) (.node oA .nil .nil))
      (.node (boot_o_5 P) (.node (boot_o_9 P) .nil .nil) (.node oC .nil .nil)))
    (.node (boot_o_2 P)
      (.node (boot_o_4 P) (.node (boot_o_8 P) .nil .nil) (.node oB .nil .nil))
      (.node (boot_o_6 P) (.node (boot_o_10 P) .nil .nil) (.node oD .nil .nil)))

noncomputable abbrev st0 (w : World) (os : OsState) : Shared := ⟨boot_heap w.params, ⟨[]⟩, boot_drawn, boot_toks, os⟩
noncomputable abbrev stA (w : World) (os : OsState) : Shared := ⟨heapA w.params, ⟨[]⟩, {}, 187, os⟩
noncomputable abbrev stT (w : World) (os : OsState) : SharedT := ⟨treeA w.params, 15, {}, ⟨[]⟩, {}, 187, os⟩

theorem h_pre (w : World) : (fun os => topGo treeTable pw0 w 11 annT 12 (st0 w os) (topStub pw0)) = fun os => some (stA w os, ⟨denote treeTable codeT, codeT, q0, frT⟩) := by
  rw [PySem.W.Fast.te15667345088766844465, PySem.W.Fast.te14364793385576792824, PySem.W.Fast.te11892475500146522536]
  kernel_rfl
theorem h_blk (w : World) : (fun os => segRun treeTable pw0 w 11 annT 1 1 (stA w os) (blockOf (behindTheImports pw0) envT codeT q0 frT)) = fun os => some (.next, (stT w os).abs, codeT, q0) := by
  rw [PySem.W.Fast.te14374325043358763698, PySem.W.Fast.te14364793385576792824]
  kernel_rfl
theorem h_end (w : World) (s : Shared) (p : Pos) : topRun treeTable pw0 w 11 annT 2 s ⟨doneF .next, codeT, p, frT⟩ = some s := by
  obtain ⟨h, g, d, t, o⟩ := s
  rfl
theorem h_open : opening pw0 = plainProg pw0.main.scope.names := by kernel_rfl
theorem h_fence (s : Shared) : fenceModules? pw0 s = some s := by kernel_rfl
theorem h_size (w : World) : ((boot_heap w.params).isNs mainGlobals && (⟨[]⟩ : Array GenState).size == 0, (boot_heap w.params).objs.size, (boot_heap w.params).nsMap mainGlobals "__annotations__") = (true, 11, annT) := by
  rw [PySem.W.Fast.te8920871248978507458]
  kernel_rfl
theorem h_said : OpenLaw.wellSaid rw0 = true := by
  rw [PySem.W.Fast.te9446332074065402090]
  unfold PySem.W.Fast.tw9446332074065402090
  repeat' (first | (with_reducible refine look_both ?_ ?_) | unfold PySem.W.Fast.tw17960256430627541270 | unfold PySem.W.Fast.tw2436336058641802641 | unfold PySem.W.Fast.tw12908688711261696721)
  all_goals decide +kernel
end
end Mine
end

section
open PySem PySem.W PyProof.Rows
set_option Elab.async false
set_option maxRecDepth 100000
set_option maxHeartbeats 0
set_option linter.unusedVariables false

namespace Mine
noncomputable section

/-- what is asked of the heap behind the run -/
noncomputable def fin (q : Program) (loose : List Str) (Xt : Shared → Bool) (w : World) (s : Shared) :=
  ((staticsOk (importedModules pw0.main.body) (boot_heap w.params) s.heap && namesBound pw0 s.heap && gensDone s && laidKept (boot_heap w.params) s.heap),
   openSeen q loose (importedModules pw0.main.body) Xt true s)

noncomputable abbrev thT : Thread := piecesOf (behindTheImports pw0) envT codeT q0 frT

theorem left_gen {p q : Program} {loose : List Str} {Xt : Shared → Bool} {α : Type} {Yf : Shared → α} {Ya : World → α} {H₀ : Params → Heap} {gs₀ : Array GenState} {d₀ : PySem.Drawn} {k₀ m₀ M N : Nat} {ann : Option Value}
    (open_ : ∀ w : World, (fencedOpening treeTable p w N).map (fun s => (s.heap, s.gens, s.drawn, s.toks)) = some (H₀ w.params, gs₀, d₀, k₀))
    (size : ∀ w : World, ((H₀ w.params).isNs mainGlobals && gs₀.size == 0, (H₀ w.params).objs.size, (H₀ w.params).nsMap mainGlobals "__annotations__") = (true, m₀, ann))
    (run : ∀ (w : World) (os : OsState), ∃ s₁, topRun treeTable p w m₀ ann M ⟨H₀ w.params, gs₀, d₀, k₀, os⟩ (topStub p) = some s₁ ∧
      (staticsOk (importedModules p.main.body) (H₀ w.params) s₁.heap && namesBound p s₁.heap && gensDone s₁ && laidKept (H₀ w.params) s₁.heap) = true ∧ openSeen q loose (importedModules p.main.body) Xt true s₁ = openGood q loose ∧ Yf s₁ = Ya w) (le : M ≤ N) :
    LeftO p q loose Xt Yf Ya N true := by
  intro w
  have first := open_ w
  have look := size w
  cases ef : fencedOpening treeTable p w N with
  | none => rw [ef] at first; cases first
  | some s =>
    rw [ef] at first
    cases s with
    | mk h gs d k os =>
    cases Option.some.inj first
    obtain ⟨s₁, r, good⟩ := run w os
    obtain ⟨j, rfl⟩ := Nat.exists_eq_add_of_le le
    have far := topRun_mono j _ _ _ _ r
    have at0 := Prod.mk.inj look
    have at1 := Prod.mk.inj at0.2
    have ends : openEnds treeTable p w (M + j) = some s₁ := by
      simp only [openEnds, ef, Option.bind_some, topFrom, at0.1, at1.1, at1.2, far, good.1]
    simp only [ends, Option.map_some, good.2.1, good.2.2]

theorem run_gen {p : Program} {w : World} {m₀ : Nat} {ann : Option Value} {env : Env} {q0 qe pz : Pos} {b : List Stmt} {sz sa : Shared} {sT s : SharedT} {st : Thread} {n1 n2 n3 n4 : Nat}
    (h1 : topGo treeTable p w m₀ ann n1 sz st = some (sa, ⟨denote treeTable (.body b env), .body b env, q0, [topFrame q0]⟩))
    (h2 : segRun treeTable p w m₀ ann 1 n2 sa (blockOf b env (.body b env) q0 [topFrame q0]) = some (.next, sT.abs, .body b env, pz))
    (h3 : segRunT treeTable p w m₀ ann 1 n3 sT (piecesOf b env (.body b env) pz [topFrame q0]) = some (.next, s, .body b env, qe))
    (h4 : topRun treeTable p w m₀ ann n4 s.abs ⟨doneF .next, .body b env, qe, [topFrame q0]⟩ = some s.abs) : topRun treeTable p w m₀ ann (n1 + (n2 + (n3 + n4))) sz st = some s.abs := by
  have g2 := piece_app (rest := []) (segRun_of h3) (piece_nil h4)
  rw [List.append_nil] at g2
  exact go_top h1 (piece_block h2 g2)

theorem left_of {q : Program} {loose : List Str} {Xt : Shared → Bool} {α : Type} {Yf : Shared → α} {Ya : World → α}
    (key : ∀ w os, ∃ s, segRunT treeTable pw0 w 11 annT 1 4660 (stT w os) thT = some (.next, s, codeT, qE) ∧ fin q loose Xt w s.abs = (true, openGood q loose) ∧ Yf s.abs = Ya w) :
    LeftO pw0 q loose Xt Yf Ya 10000 true := by
  refine left_gen (M := 12 + (1 + (4660 + 2))) (boot_open (p := pw0) (N := 10000) h_open (by decide) h_fence) h_size (fun w os => ?_) (by decide)
  obtain ⟨s, r1, r2, r3⟩ := key w os
  unfold fin at r2
  rw [Prod.mk.injEq] at r2
  exact ⟨s.abs, run_gen (congrFun (h_pre w) os) (congrFun (h_blk w) os) r1 (h_end w s.abs qE), r2.1, r2.2, r3⟩

/-! ## the law alone; what is read off the heap -/
noncomputable def qL : Program := { pw0 with main := { pw0.main with body := pw0.main.body.drop 71 } }
noncomputable def lsL : List Str := pw0.boundNames.filter fun n => n != Str.ofString "law"

noncomputable def asT : List Nat := [3, 31, 51, 153, 154, 155, 156, 365, 366, 367, 368, 422, 423, 745, 746, 747, 748, 222, 426, 427, 229, 230, 231, 232, 233, 234, 235, 594, 595, 596, 597, 598, 599, 600, 601, 165, 172, 179, 186, 193, 200, 207, 214, 221, 434, 462, 469, 476, 483, 490, 497, 504, 518, 525] ++ (fnL.flatMap fun p => [p.1 - 1, p.1])
noncomputable def fragOf (h : Heap) : Frag := asT.filterMap fun a => (h.get? a).map fun o => (a, o)
theorem frag_in (h : Heap) : (fragOf h).In h := fun a o e => by
  have := mem_lk e
  unfold fragOf at this
  obtain ⟨b, _, hb⟩ := List.mem_filterMap.mp this
  obtain ⟨o', ho, he⟩ := Option.map_eq_some_iff.mp hb
  cases he
  exact ho

/-- an object, read off the tree -/
noncomputable def getT (s : SharedT) (a : Nat) : Option Obj := match Nat.blt a s.n with
  | true => alive ((s.tree.get a).getD default)
  | false => none
theorem getT_eq (s : SharedT) (a : Nat) : s.abs.heap.get? a = getT s a := by
  obtain ⟨t, n, life, g, d, k, os⟩ := s
  show (absHeap t n life).get? a = (match Nat.blt a n with | true => alive ((t.get a).getD default) | false => none)
  cases h : Nat.blt a n with
  | true =>
    have h : a < n := Nat.le_of_ble_eq_true h
    unfold Heap.get?
    rw [absHeap_at, if_pos h]
    show (match some ((t.get a).getD default) with | some ⟨_, _, .freed, _⟩ => none | o => o) = _
    obtain ⟨c, d, dt, sl⟩ := (t.get a).getD default
    cases dt <;> rfl
  | false =>
    have h : ¬ a < n := fun z => by rw [show Nat.blt a n = true from Nat.ble_eq_true_of_le z] at h; cases h
    exact abs_get_none h
noncomputable def fragT (s : SharedT) : Frag := asT.filterMap fun a => (getT s a).map fun o => (a, o)
theorem fragT_eq (s : SharedT) : fragOf s.abs.heap = fragT s := by
  unfold fragOf fragT
  simp only [getT_eq]

noncomputable def lawN : List Str := [Str.ofString "script", Str.ofString "pool", Str.ofString "names", Str.ofString "times", Str.ofString "tree", Str.ofString "other", Str.ofString "numbers", Str.ofString "gap", Str.ofString "m", Str.ofString "table", Str.ofString "place", Str.ofString "left", Str.ofString "right", Str.ofString "above", Str.ofString "value"]
noncomputable def lawBS : Option (List Stmt × Scope) := match pw0.main.body.drop 71 with
  | .FunctionDef _ _ b _ _ _ sc _ _ _ :: _ => some (b, sc)
  | _ => none
end
end Mine
end

section
open PySem PySem.W PyProof.Rows
set_option Elab.async false
set_option maxRecDepth 100000
set_option maxHeartbeats 0
set_option linter.unusedVariables false

namespace Mine
noncomputable section
noncomputable def xtL (s : Shared) : Bool := xlAt qL [] s && recOk [] s
/-- the run of the top -/
noncomputable def runT (w : World) (os : OsState) : Option (Flow × SharedT × Code × Pos) := segRunT treeTable pw0 w 11 annT 1 4660 (stT w os) thT

noncomputable def obsA (K : Frag) := (chkFld K, chkMth K, chkIni K, chkDef K, dflOf K 237, dflOf K 603, (fnRow K 783).map fun p => (p.2, p.1.scope, slotsOf p.1))
noncomputable def valA := (true, true, true, true, some (nm237, true, [MV.int 100000]), some (nm603, true, [MV.int 100000, .bool true, .int 4096]), lawBS.map fun p => (p.1, p.2, lawN))
noncomputable def obsB (K : Frag) := fnL.map fun p => mkFun (lay K) p.2 p.1
noncomputable def valB := fnL.map fun p => PP p.1

theorem h_looks (w : World) : (fun os => (runT w os).map fun r => (r.1, r.2.2.1, r.2.2.2, fin qL lsL xtL w r.2.1.abs, obsA (fragT r.2.1))) = fun _ => some (.next, codeT, qE, (true, openGood qL lsL), valA) := by
  unfold runT fin
  rw [PySem.W.Fast.te10110043849684766642, PySem.W.Fast.te14364793385576792824, PySem.W.Fast.te4187177175401517315]
  kernel_rfl
theorem h_funs (w : World) : (fun os => (runT w os).map fun r => obsB (fragT r.2.1)) = fun _ => some valB := by
  unfold runT
  rw [PySem.W.Fast.te10110043849684766642, PySem.W.Fast.te14364793385576792824]
  kernel_rfl

theorem h_key (w : World) (os : OsState) : ∃ s, runT w os = some (.next, s, codeT, qE) ∧ fin qL lsL xtL w s.abs = (true, openGood qL lsL) ∧ (obsA (fragOf s.abs.heap), obsB (fragOf s.abs.heap)) = (valA, valB) := by
  obtain ⟨⟨fl, s, c, p⟩, r1, r2⟩ := Option.map_eq_some_iff.mp (congrFun (h_looks w) os)
  have r2 : (fl, c, p, fin qL lsL xtL w s.abs, obsA (fragT s)) = (.next, codeT, qE, (true, openGood qL lsL), valA) := r2
  rw [Prod.mk.injEq, Prod.mk.injEq, Prod.mk.injEq, Prod.mk.injEq] at r2
  obtain ⟨rfl, rfl, rfl, r5, x2⟩ := r2
  obtain ⟨y, y1, y2⟩ := Option.map_eq_some_iff.mp (congrFun (h_funs w) os)
  rw [r1] at y1
  cases y1
  have y2 : obsB (fragT s) = valB := y2
  exact ⟨s, r1, r5, by rw [fragT_eq, x2, y2]⟩
end
end Mine
end

section
open PySem Mine
set_option Elab.async false
set_option maxRecDepth 100000
set_option linter.unusedVariables false

namespace Mine
/-- one call deeper -/
noncomputable def up (G : Orc) : Orc := fun f vs O k => need (PP f) fun d => runF G tab d vs O k

noncomputable abbrev GG (n : Nat) : Orc := gam PP tab n
theorem GG_up (n : Nat) : GG (n + 1) = up (GG n) := rfl

/-- the pool of the draws -/
noncomputable def Pool (o : MO) : Prop := ∃ (ns : List MV) (cur i cnt : Int), o = .list [.flist ns, .int cur, .int i, .int cnt] ∧ (∀ x ∈ ns, ∃ z, x = .int z) ∧ ns.length < 1000000 ∧ 0 ≤ cur ∧ -1 ≤ i ∧ 0 ≤ cnt

local macro_rules | `(tactic| walk_at "go") => `(tactic| ((conv => whnf); (repeat (refine ⟨by first | decide | exact Nat.le_of_ble_eq_true rfl, ?_⟩; (conv => whnf)))))

theorem need_of {α : Type} {o : Option α} {a : α} {k : α → Prop} (h : o = some a) (hk : k a) : need o k := by rw [h]; exact hk

theorem ints_at {ns : List MV} (h : ∀ x ∈ ns, ∃ z, x = MV.int z) {i : Nat} (hi : i < ns.length) : ∃ z, ns[i]? = some (.int z) := by
  obtain ⟨z, hz⟩ := h _ (List.getElem_mem hi)
  exact ⟨z, by rw [List.getElem?_eq_getElem hi, hz]⟩

theorem fmod_lt {a b : Int} (h : 0 < b) : 0 ≤ a.fmod b ∧ a.fmod b < b := ⟨Int.fmod_nonneg_of_pos _ h, Int.fmod_lt_of_pos _ h⟩
theorem fdiv_nonneg {a b : Int} (ha : 0 ≤ a) (h : 0 < b) : 0 ≤ a.fdiv b := Int.fdiv_nonneg ha (Int.le_of_lt h)

theorem draw_ok {G : Orc} {p : MO} {R : List MO} {limit : Int} {k : MV → List MO → Prop} (hp : Pool p) (h0 : 0 < limit) (h1 : limit < 2 ^ 70)
    (q : ∀ d p', 0 ≤ d → d < limit → Pool p' → k (.int d) (p' :: R)) : up G 757 [.own 0, .int limit] (p :: R) k := by
  obtain ⟨ns, cur, i, cnt, rfl, hns, hlen, hc, hi, hcn⟩ := hp
  walk_at "go"
  cases hb : (cur == 0)
  · walk_at "go"
    refine ⟨h0, ?_⟩
    walk_at "go"
    refine ⟨h0, h1, ?_⟩
    walk_at "go"
    exact q _ _ (fmod_lt h0).1 (fmod_lt h0).2 ⟨ns, _, i, cnt, rfl, hns, hlen, fdiv_nonneg hc h0, hi, hcn⟩
  · walk_at "go"
    refine ⟨hlen, ?_⟩
    walk_at "go"
    cases hb2 : decide (i + 1 ≥ (ns.length : Int))
    · walk_at "go"
      have hb3 := of_decide_eq_false hb2
      have hlt : (i + 1).toNat < ns.length := by omega
      obtain ⟨z, hz⟩ := ints_at hns hlt
      refine ⟨by omega, by omega, ?_⟩
      refine need_of hz ?_
      walk_at "go"
      refine ⟨h0, ?_⟩
      walk_at "go"
      refine ⟨h0, h1, ?_⟩
      walk_at "go"
      refine q _ _ (fmod_lt h0).1 (fmod_lt h0).2 ⟨ns, _, i + 1, cnt, rfl, hns, hlen, fdiv_nonneg ?_ h0, by omega, hcn⟩
      split <;> omega
    · walk_at "go"
      refine ⟨h0, ?_⟩
      walk_at "go"
      exact q _ _ (fmod_lt h0).1 (fmod_lt h0).2 ⟨ns, cur, i + 1, cnt + 1, rfl, hns, hlen, hc, by omega, by omega⟩
end Mine
end

section
open PySem Mine
set_option Elab.async false
set_option maxRecDepth 100000
set_option linter.unusedVariables false

namespace Mine
local macro_rules | `(tactic| walk_at "go") => `(tactic| ((conv => whnf); (repeat (refine ⟨by first | decide | exact Nat.le_of_ble_eq_true rfl, ?_⟩; (conv => whnf)))))

noncomputable def symF : List (Nat × MV) := [(4, .own 2), (5, .own 3), (6, .own 4), (7, .own 5)]
/-- the pool and the table of names -/
noncomputable abbrev symO (p : MO) (T : List MV) (A : List (Key × MV)) (F : List MV) (N : List (Key × MV)) (J : List MO) : List MO := p :: .inst 154 symF :: .list T :: .dict A :: .list F :: .dict N :: J

section
variable {G : Orc} {p : MO} {T F : List MV} {A N : List (Key × MV)} {J : List MO} {k : MV → List MO → Prop}

theorem atom_new {x : Str} (h1 : getK (.ks x) A = none) (h2 : allKin (.ks x) A) (h3 : A.length < 1000000) (h4 : T.length < 1000000)
    (q : k (.int T.length) (symO p (T ++ [.str x]) (putK (.ks x) (.int T.length) A) F N J)) : up G 88 [.own 1, .str x] (symO p T A F N J) k := by
  walk_at "go"
  refine ⟨h2, ?_⟩
  walk_at "go"
  rw [h1]
  walk_at "go"
  refine ⟨h4, ?_⟩
  walk_at "go"
  refine ⟨h2, h3, trivial, ?_⟩
  walk_at "go"
  exact q

theorem atom_old {x : Str} {i : Int} (h1 : getK (.ks x) A = some (.int i)) (h2 : allKin (.ks x) A) (h0 : 0 ≤ i) (q : k (.int i) (symO p T A F N J)) : up G 88 [.own 1, .str x] (symO p T A F N J) k := by
  walk_at "go"
  refine ⟨h2, ?_⟩
  walk_at "go"
  rw [h1]
  walk_at "go"
  have hb : decide (i ≥ 0) = true := decide_eq_true h0
  rw [hb]
  walk_at "go"
  exact q

theorem functor_new {a b : Int} (h1 : getK (.kt [a, b]) N = none) (h2 : allKin (.kt [a, b]) N) (h3 : N.length < 1000000) (h4 : F.length < 1000000)
    (q : k (.int F.length) (symO p T A (F ++ [.tup [.int a, .int b]]) (putK (.kt [a, b]) (.int F.length) N) J)) : up G 102 [.own 1, .int a, .int b] (symO p T A F N J) k := by
  walk_at "go"
  refine ⟨h2, ?_⟩
  walk_at "go"
  rw [h1]
  walk_at "go"
  refine ⟨h4, ?_⟩
  walk_at "go"
  refine ⟨h2, h3, h1, ?_⟩
  walk_at "go"
  exact q

theorem func_any {x : Str} {i b r : Int} {O O' : List MO} {fs : List (Nat × MV)} (hO : O[1]? = some (.inst 154 symF))
    (ha : ∀ k : MV → List MO → Prop, k (.int i) O → G 88 [.own 1, .str x] O k) (hf : ∀ k : MV → List MO → Prop, k (.int r) O' → G 102 [.own 1, .int i, .int b] O k)
    (q : k (.int r) O') : up G 109 [.own 1, .str x, .int b] O k := by
  walk_at "go"
  refine need_of hO ?_
  walk_at "go"
  refine need_of hO ?_
  walk_at "go"
  refine ha _ ?_
  walk_at "go"
  refine hf _ ?_
  walk_at "go"
  exact q

/-- a name and how many: a new functor of an old atom -/
theorem func_new {x : Str} {i b : Int} (h1 : getK (.ks x) A = some (.int i)) (h2 : allKin (.ks x) A) (h0 : 0 ≤ i)
    (h3 : getK (.kt [i, b]) N = none) (h4 : allKin (.kt [i, b]) N) (h5 : N.length < 1000000) (h6 : F.length < 1000000)
    (q : k (.int F.length) (symO p T A (F ++ [.tup [.int i, .int b]]) (putK (.kt [i, b]) (.int F.length) N) J)) : up (up G) 109 [.own 1, .str x, .int b] (symO p T A F N J) k :=
  func_any (fs := symF) rfl (fun k q => atom_old h1 h2 h0 q) (fun k q => functor_new h3 h4 h5 h6 q) q

/-! ### the table is filled -/
structure Sy where
  T : List MV
  A : List (Key × MV)
  F : List MV
  N : List (Key × MV)

noncomputable def addA (s : Sy) (x : Str) : Sy := ⟨s.T ++ [.str x], putK (.ks x) (.int s.T.length) s.A, s.F, s.N⟩
noncomputable def okA : List Str → Sy → Bool
  | [], _ => true
  | x :: r, s => (getK (.ks x) s.A).isNone && s.A.all (fun p => p.1.kin (.ks x)) && decide (s.A.length < 1000000) && decide (s.T.length < 1000000) && okA r (addA s x)
noncomputable def aInt (v : Option MV) : Option Int := match v with
  | some (.int i) => some i
  | _ => none
noncomputable def addF (s : Sy) (y : Str × Int) : Sy := match aInt (getK (.ks y.1) s.A) with
  | some i => ⟨s.T, s.A, s.F ++ [.tup [.int i, .int y.2]], putK (.kt [i, y.2]) (.int s.F.length) s.N⟩
  | none => s
noncomputable def okF : List (Str × Int) → Sy → Bool
  | [], _ => true
  | y :: r, s => (match aInt (getK (.ks y.1) s.A) with
    | some i => s.A.all (fun p => p.1.kin (.ks y.1)) && decide (0 ≤ i) && (getK (.kt [i, y.2]) s.N).isNone && s.N.all (fun p => p.1.kin (.kt [i, y.2])) && decide (s.N.length < 1000000) && decide (s.F.length < 1000000)
    | none => false) && okF r (addF s y)

theorem aInt_of {v : Option MV} {i : Int} (h : aInt v = some i) : v = some (.int i) := by
  unfold aInt at h
  split at h
  · cases h; rfl
  · cases h

noncomputable abbrev symS (p : MO) (s : Sy) (J : List MO) : List MO := symO p s.T s.A s.F s.N J

noncomputable def bodyA : MSs := .cons (.expr (.callm (.loc 0) 31 (.cons (.loc 1) .nil))) .nil
noncomputable def bodyF : MSs := .cons (.expr (.callm (.loc 0) 34 (.cons (.sub (.loc 2) (.lit (.int (0)))) (.cons (.sub (.loc 2) (.lit (.int (1)))) .nil)))) .nil

theorem loopA {K : Fl → S → Prop} : ∀ (xs : List Str) (s : Sy) (u : Option MV), okA xs s = true → (∀ u, K .next ⟨[some (.own 1), u, none], symS p (xs.foldl addA s) J⟩) →
    forG 1 (fun _ => True) (evSs (up G) tab bodyA) (xs.map .str) ⟨[some (.own 1), u, none], symS p s J⟩ K
  | [], s, u, _, q => ⟨trivial, q u⟩
  | x :: r, s, u, h, q => by
    unfold okA at h
    simp only [Bool.and_eq_true, Option.isNone_iff_eq_none, decide_eq_true_eq] at h
    obtain ⟨⟨⟨⟨h1, h2⟩, h3⟩, h4⟩, h5⟩ := h
    refine ⟨trivial, ?_⟩
    generalize hU : up G = U
    walk_at "go"
    subst hU
    refine atom_new h1 h2 h3 h4 ?_
    walk_at "go"
    exact loopA r (addA s x) _ h5 q

theorem loopF {K : Fl → S → Prop} : ∀ (xs : List (Str × Int)) (s : Sy) (u v : Option MV), okF xs s = true → (∀ v, K .next ⟨[some (.own 1), u, v], symS p (xs.foldl addF s) J⟩) →
    forG 2 (fun _ => True) (evSs (up (up G)) tab bodyF) (xs.map fun y => .tup [.str y.1, .int y.2]) ⟨[some (.own 1), u, v], symS p s J⟩ K
  | [], s, u, v, _, q => ⟨trivial, q v⟩
  | y :: r, s, u, v, h, q => by
    unfold okF at h
    rw [Bool.and_eq_true] at h
    obtain ⟨h, h7⟩ := h
    split at h
    · rename_i i hi
      simp only [Bool.and_eq_true, Option.isNone_iff_eq_none, decide_eq_true_eq] at h
      obtain ⟨⟨⟨⟨⟨h1, h2⟩, h3⟩, h4⟩, h5⟩, h6⟩ := h
      refine ⟨trivial, ?_⟩
      generalize hU : up (up G) = U
      walk_at "go"
      subst hU
      refine func_new (aInt_of hi) h1 h2 h3 h4 h5 h6 ?_
      walk_at "go"
      have e : addF s y = ⟨s.T, s.A, s.F ++ [.tup [.int i, .int y.2]], putK (.kt [i, y.2]) (.int s.F.length) s.N⟩ := by unfold addF; rw [hi]
      have ih := loopF (K := K) r (addF s y) u (some (.tup [.str y.1, .int y.2])) h7 q
      rw [e] at ih
      exact ih
    · cases h

noncomputable def fixA : List Str := ["[]", ".", "{}", "-", "+", "*", "/", ",", "|", ";", "->", "\\+", ":-", "?-", "-->", "!", "true", "fail", "false", "call", "=", "^", "error", "", "end_of_file", "system", "$VAR", "catch", "throw"].map Str.ofString
noncomputable def fixF : List (Str × Int) := [(".", 2), (",", 2), (";", 2), ("->", 2), ("\\+", 1), (":-", 2), (":-", 1), ("?-", 1), ("-->", 2), ("{}", 1), ("=", 2), ("^", 2), ("-", 1), ("-", 2), ("+", 2), ("/", 2), ("error", 2), ("$VAR", 1), ("catch", 3), ("throw", 1), ("!", 0), ("true", 0), ("fail", 0), ("false", 0), ("call", 1), ("call", 2), ("call", 3), ("call", 4), ("call", 5), ("call", 6), ("call", 7), ("call", 8)].map fun p => (Str.ofString p.1, p.2)
noncomputable def sy0 : Sy := ⟨[], [], [], []⟩
noncomputable def sy1 : Sy := fixA.foldl addA sy0
noncomputable def sy2 : Sy := fixF.foldl addF sy1
theorem okA0 : okA fixA sy0 = true := by decide +kernel
theorem okF0 : okF fixF sy1 = true := by decide +kernel

theorem call60 {O : List MO} (q : k (.tup (fixA.map .str)) O) : up G 60 [] O k := by
  walk_at "go"
  exact q
theorem call67 {O : List MO} (q : k (.tup (fixF.map fun y => .tup [.str y.1, .int y.2])) O) : up G 67 [] O k := by
  walk_at "go"
  exact q

theorem init_sym (q : k .none (symS p sy2 [])) : up (up (up G)) 81 [.own 1] (p :: .inst 154 [] :: []) k := by
  generalize hU : up (up G) = U
  walk_at "go"
  subst hU
  refine call60 ?_
  refine loopA (J := []) fixA sy0 none okA0 (fun u => ?_)
  generalize hU : up (up G) = U
  walk_at "go"
  subst hU
  refine call67 ?_
  refine loopF (J := []) fixF sy1 u none okF0 (fun v => ?_)
  exact q

end
end Mine
end

section
open PySem Mine
set_option Elab.async false
set_option maxRecDepth 100000
set_option linter.unusedVariables false

namespace Mine
local macro_rules | `(tactic| walk_at "go") => `(tactic| ((conv => whnf); (repeat (refine ⟨by first | decide | exact Nat.le_of_ble_eq_true rfl | decide +kernel, ?_⟩; (conv => whnf)))))

/-! ## the trees -/
inductive Tr where
  | v (i : Nat)
  | i (z : Int)
  | u (a : Tr)
  | b (f : Int) (x y : Tr)

noncomputable def sV : Str := Str.ofString "v"
noncomputable def sI : Str := Str.ofString "i"
noncomputable def sS : Str := Str.ofString "s"

noncomputable def enc : Tr → MV
  | .v i => .tup [.str sV, .int i]
  | .i z => .tup [.str sI, .int z]
  | .u a => .tup [.str sS, .int 12, .tup [enc a]]
  | .b f x y => .tup [.str sS, .int f, .tup [enc x, enc y]]

noncomputable def Wf : Tr → Prop
  | .v i => i < 3
  | .i z => z.natAbs < 2 ^ 67
  | .u a => Wf a
  | .b f x y => (f = 14 ∨ f = 13 ∨ f = 32) ∧ Wf x ∧ Wf y

/-- a bound of the exponent, a bound of the size, of what is made out of a tree -/
noncomputable def ex : Tr → Nat
  | .v _ => 2
  | .i _ => 2
  | .u a => ex a + 1
  | .b _ x y => ex x + ex y
noncomputable def sm : Tr → Nat
  | .v _ => 5
  | .i _ => 5
  | .u a => sm a + 2
  | .b _ x y => 2 * sm x + sm y + 3
noncomputable def sz : Tr → Nat
  | .v _ => 1
  | .i _ => 1
  | .u a => sz a + 1
  | .b _ x y => sz x + sz y + 1

noncomputable def fS : Nat → Nat
  | 0 => 5
  | 1 => 18
  | 2 => 31
  | 3 => 57
  | _ => 70

noncomputable def DrawC (G : Orc) : Prop := ∀ (p : MO) (R : List MO) (limit : Int) (k : MV → List MO → Prop), Pool p → 0 < limit → limit < 2 ^ 70 → (∀ d p', 0 ≤ d → d < limit → Pool p' → k (.int d) (p' :: R)) → G 757 [.own 0, .int limit] (p :: R) k
theorem drawC (G : Orc) : DrawC (up G) := fun p R limit k hp h0 h1 q => draw_ok hp h0 h1 q

noncomputable def TreeC (G : Orc) (r : Nat) : Prop := ∀ (p : MO) (R : List MO) (k : MV → List MO → Prop), Pool p → (∀ t p', Wf t → ex t ≤ 2 * r + 2 → sm t ≤ fS r → Pool p' → k (enc t) (p' :: R)) → G 764 [.own 0, .int 32, .int r] (p :: R) k

theorem fS_ge : ∀ r, 5 ≤ fS r
  | 0 => by decide
  | 1 => by decide
  | 2 => by decide
  | 3 => by decide
  | _ + 4 => by show 5 ≤ 70; decide

theorem fS_bin {r : Nat} (h : r ≤ 3) : 2 * fS (r / 2) + fS ((r + 1) / 2) + 3 ≤ fS (r + 1) := by
  rcases (by omega : r = 0 ∨ r = 1 ∨ r = 2 ∨ r = 3) with rfl | rfl | rfl | rfl <;> decide
theorem fS_un {r : Nat} (h : r ≤ 3) : fS r + 2 ≤ fS (r + 1) := by
  rcases (by omega : r = 0 ∨ r = 1 ∨ r = 2 ∨ r = 3) with rfl | rfl | rfl | rfl <;> decide

theorem treeAt {G : Orc} {r : Nat} (h : TreeC G r) {z : Int} (hz : z = r) (p : MO) (R : List MO) (k : MV → List MO → Prop) (hp : Pool p) (q : ∀ t p', Wf t → ex t ≤ 2 * r + 2 → sm t ≤ fS r → Pool p' → k (enc t) (p' :: R)) : G 764 [.own 0, .int 32, .int z] (p :: R) k := by
  subst hz; exact h p R k hp q

theorem fdiv2 (a : Int) : a.fdiv 2 = a / 2 := Int.fdiv_eq_ediv_of_nonneg _ (by decide)

theorem tr1 {r : Nat} : r / 2 < r + 1 := by omega
theorem tr2 {r : Nat} : (r + 1) / 2 < r + 1 := by omega
theorem tr3 {r : Nat} : Int.fdiv (((r + 1 : Nat) : Int) - 1) 2 = ((r / 2 : Nat) : Int) := by rw [fdiv2]; omega
theorem tr4 {r : Nat} : Int.fdiv ((r + 1 : Nat) : Int) 2 = (((r + 1) / 2 : Nat) : Int) := by rw [fdiv2]; omega
theorem tr5 {r a b : Nat} (h1 : a ≤ 2 * (r / 2) + 2) (h2 : b ≤ 2 * ((r + 1) / 2) + 2) : a + b ≤ 2 * (r + 1) + 2 := by omega
theorem tr6 {a b x y z : Nat} (h1 : a ≤ x) (h2 : b ≤ y) (h3 : 2 * x + y + 3 ≤ z) : 2 * a + b + 3 ≤ z := by omega
theorem tree_step {G : Orc} {r : Nat} (hD : DrawC G) (hr : r ≤ 4) (hT : ∀ r', r' < r → TreeC G r') : TreeC (up G) r := by
  intro p R k hp q
  have hex : 2 ≤ 2 * r + 2 := by omega
  have hsm : 5 ≤ fS r := fS_ge r
  walk_at "go"
  refine hD p _ _ _ hp (by decide) (by decide) fun d p1 hd0 hd1 hp1 => ?_
  walk_at "go"
  cases hlt : decide (d < 2)
  · walk_at "go"
    rcases r with _ | r
    · walk_at "go"
      refine hD p1 R _ _ hp1 (by decide) (by decide) fun l p2 hl0 hl1 hp2 => ?_
      rcases (by omega : l = 0 ∨ l = 1 ∨ l = 2 ∨ l = 3 ∨ l = 4) with rfl | rfl | rfl | rfl | rfl
      · walk_at "go"
        exact q (.v 0) p2 (by unfold Wf; decide) hex hsm hp2
      · walk_at "go"
        exact q (.v 1) p2 (by unfold Wf; decide) hex hsm hp2
      · walk_at "go"
        exact q (.v 2) p2 (by unfold Wf; decide) hex hsm hp2
      · walk_at "go"
        refine hD p2 R _ _ hp2 (by decide) (by decide) fun z p3 h0 h1 hp3 => ?_
        walk_at "go"
        exact q (.i (z - 10)) p3 (by unfold Wf; omega) hex hsm hp3
      · walk_at "go"
        refine hD p2 R _ _ hp2 (by decide) (by decide) fun z p3 h0 h1 hp3 => ?_
        walk_at "go"
        have e1 : (10 : Int) ^ Int.toNat 20 = 100000000000000000000 := by decide
        have e2 : (10 : Int) ^ Int.toNat 19 = 10000000000000000000 := by decide
        refine q (.i (z - 5 * 10 ^ Int.toNat 19)) p3 ?_ hex hsm hp3
        unfold Wf
        rw [e1] at h1
        rw [e2]; omega
    · have hne : ((↑(r + 1) : Int) == 0) = false := beq_eq_false_iff_ne.mpr (by omega)
      rw [hne]
      walk_at "go"
      have := of_decide_eq_false hlt
      rcases (by omega : d = 2 ∨ d = 3 ∨ d = 4 ∨ d = 5) with rfl | rfl | rfl | rfl
      · walk_at "go"
        refine treeAt (hT (r / 2) tr1) tr3 p1 R _ hp1 fun t1 p2 w1 e1 s1 hp2 => ?_
        walk_at "go"
        refine treeAt (hT ((r + 1) / 2) tr2) tr4 p2 R _ hp2 fun t2 p3 w2 e2 s2 hp3 => ?_
        walk_at "go"
        refine q (.b 14 t1 t2) p3 ⟨.inl rfl, w1, w2⟩ ?_ ?_ hp3
        · exact tr5 e1 e2
        · exact tr6 s1 s2 (fS_bin (Nat.le_of_succ_le_succ hr))
      · walk_at "go"
        refine treeAt (hT (r / 2) tr1) tr3 p1 R _ hp1 fun t1 p2 w1 e1 s1 hp2 => ?_
        walk_at "go"
        refine treeAt (hT ((r + 1) / 2) tr2) tr4 p2 R _ hp2 fun t2 p3 w2 e2 s2 hp3 => ?_
        walk_at "go"
        refine q (.b 13 t1 t2) p3 ⟨.inr (.inl rfl), w1, w2⟩ ?_ ?_ hp3
        · exact tr5 e1 e2
        · exact tr6 s1 s2 (fS_bin (Nat.le_of_succ_le_succ hr))
      · walk_at "go"
        refine treeAt (hT (r / 2) tr1) tr3 p1 R _ hp1 fun t1 p2 w1 e1 s1 hp2 => ?_
        walk_at "go"
        refine treeAt (hT ((r + 1) / 2) tr2) tr4 p2 R _ hp2 fun t2 p3 w2 e2 s2 hp3 => ?_
        walk_at "go"
        refine q (.b 32 t1 t2) p3 ⟨.inr (.inr rfl), w1, w2⟩ ?_ ?_ hp3
        · exact tr5 e1 e2
        · exact tr6 s1 s2 (fS_bin (Nat.le_of_succ_le_succ hr))
      · walk_at "go"
        refine treeAt (hT r (by omega)) (by omega) p1 R _ hp1 fun t1 p2 w1 e1 s1 hp2 => ?_
        walk_at "go"
        refine q (.u t1) p2 w1 ?_ ?_ hp2
        · show ex t1 + 1 ≤ _; omega
        · have := fS_un (r := r) (by omega)
          show sm t1 + 2 ≤ _; omega
  · walk_at "go"
    refine hD p1 R _ _ hp1 (by decide) (by decide) fun l p2 hl0 hl1 hp2 => ?_
    rcases (by omega : l = 0 ∨ l = 1 ∨ l = 2 ∨ l = 3 ∨ l = 4) with rfl | rfl | rfl | rfl | rfl
    · walk_at "go"
      exact q (.v 0) p2 (by unfold Wf; decide) hex hsm hp2
    · walk_at "go"
      exact q (.v 1) p2 (by unfold Wf; decide) hex hsm hp2
    · walk_at "go"
      exact q (.v 2) p2 (by unfold Wf; decide) hex hsm hp2
    · walk_at "go"
      refine hD p2 R _ _ hp2 (by decide) (by decide) fun z p3 h0 h1 hp3 => ?_
      walk_at "go"
      exact q (.i (z - 10)) p3 (by unfold Wf; omega) hex hsm hp3
    · walk_at "go"
      refine hD p2 R _ _ hp2 (by decide) (by decide) fun z p3 h0 h1 hp3 => ?_
      walk_at "go"
      have e1 : (10 : Int) ^ Int.toNat 20 = 100000000000000000000 := by decide
      have e2 : (10 : Int) ^ Int.toNat 19 = 10000000000000000000 := by decide
      refine q (.i (z - 5 * 10 ^ Int.toNat 19)) p3 ?_ hex hsm hp3
      unfold Wf
      rw [e1] at h1
      rw [e2]; omega
theorem tree_ok : ∀ (r m : Nat), r ≤ 4 → TreeC (GG (m + r + 2)) r := by
  intro r
  induction r using Nat.strongRecOn with
  | ind r ih =>
    intro m hr
    have hD : DrawC (GG (m + r + 1)) := drawC (GG (m + r))
    refine tree_step (G := GG (m + r + 1)) hD hr fun r' hr' => ?_
    have e : m + r + 1 = (m + r - r' - 1) + r' + 2 := by omega
    rw [e]
    exact ih r' hr' _ (by omega)
end Mine
end

section
open PySem Mine
set_option Elab.async false
set_option maxRecDepth 100000
set_option linter.unusedVariables false

namespace Mine
local macro_rules | `(tactic| walk_at "go") => `(tactic| ((conv => whnf); (repeat (refine ⟨by first | decide | exact Nat.le_of_ble_eq_true rfl | decide +kernel, ?_⟩; (conv => whnf)))))

noncomputable def val (ν : Nat → Int) : Tr → Int
  | .v i => ν i
  | .i z => z
  | .u a => - val ν a
  | .b f x y => if f = 14 then val ν x + val ν y else if f = 13 then val ν x - val ν y else val ν x * val ν y

/-- how large the values may grow, B bounds the leaves -/
noncomputable def nm (B : Nat) : Tr → Nat
  | .v _ => B
  | .i _ => B
  | .u a => nm B a
  | .b f x y => if f = 32 then nm B x * nm B y else nm B x + nm B y

theorem ex_ge : ∀ t, 2 ≤ ex t
  | .v _ => Nat.le_refl _
  | .i _ => Nat.le_refl _
  | .u a => by have := ex_ge a; show 2 ≤ ex a + 1; omega
  | .b f x y => by have := ex_ge x; show 2 ≤ ex x + ex y; omega

section
variable {B : Nat}
theorem pow_ge (hB : 4 ≤ B) {e : Nat} (h : 1 ≤ e) : 4 ≤ B ^ e := Nat.le_trans hB (by
  have := Nat.pow_le_pow_right (n := B) (by omega) h
  rwa [Nat.pow_one] at this)
theorem add_le_mul {x y : Nat} (hx : 2 ≤ x) (hy : 2 ≤ y) : x + y ≤ x * y := by
  obtain ⟨a, rfl⟩ : ∃ a, x = a + 2 := ⟨x - 2, by omega⟩
  obtain ⟨b, rfl⟩ : ∃ b, y = b + 2 := ⟨y - 2, by omega⟩
  have e : (a + 2) * (b + 2) = a * b + 2 * a + 2 * b + 4 := by
    rw [Nat.add_mul, Nat.mul_add, Nat.mul_add, Nat.mul_comm a 2]; omega
  rw [e]; omega
theorem nm_mul {a b n1 n2 : Nat} (h1 : n1 ≤ B ^ a) (h2 : n2 ≤ B ^ b) : n1 * n2 ≤ B ^ (a + b) := by
  rw [Nat.pow_add]; exact Nat.mul_le_mul h1 h2
theorem nm_add (hB : 4 ≤ B) {a b n1 n2 : Nat} (ha : 1 ≤ a) (hb : 1 ≤ b) (h1 : n1 ≤ B ^ a) (h2 : n2 ≤ B ^ b) : n1 + n2 ≤ B ^ (a + b) := by
  rw [Nat.pow_add]
  exact Nat.le_trans (Nat.add_le_add h1 h2) (add_le_mul (by have := pow_ge hB ha; omega) (by have := pow_ge hB hb; omega))
theorem L4 (hB : 4 ≤ B) : B * B ≤ B ^ 2 := by rw [Nat.pow_two]; exact Nat.le_refl _
theorem L3 (hB : 4 ≤ B) : B + B + B ≤ B ^ 2 := by
  rw [Nat.pow_two]
  have := Nat.mul_le_mul_right B hB
  omega
theorem L2 (hB : 4 ≤ B) : B + B ≤ B ^ 2 := by have := L3 hB; omega
theorem L1 (hB : 4 ≤ B) : B ≤ B ^ 2 := by have := L3 hB; omega
theorem L0 : B ≤ B ^ 1 := Nat.le_of_eq (Nat.pow_one B).symm
end

noncomputable def OtherC (G : Orc) (t : Tr) : Prop := ∀ (p : MO) (R : List MO) (k : MV → List MO → Prop), Pool p →
  (∀ t' p', Wf t' → (∀ ν, val ν t' = val ν t) → (∀ B, 4 ≤ B → nm B t' ≤ B ^ ex t) → sz t' ≤ sm t → Pool p' → k (enc t') (p' :: R)) → G 771 [.own 0, .int 32, enc t] (p :: R) k

theorem other_v {G : Orc} (hD : DrawC G) {j : Nat} (hw : Wf (.v j)) : OtherC (up G) (.v j) := by
  intro p R k hp q
  walk_at "go"
  refine hD p _ _ _ hp (by decide) (by decide) fun d p1 hd0 hd1 hp1 => ?_
  walk_at "go"
  rcases (by omega : d = 0 ∨ d = 1 ∨ d = 2 ∨ d = 3 ∨ d = 4) with rfl | rfl | rfl | rfl | rfl
  · walk_at "go"
    exact q (.v j) p1 hw (fun ν => rfl) (fun B hB => L1 hB) (Nat.le_of_ble_eq_true rfl) hp1
  · walk_at "go"
    exact q (.b 14 (.i 0) (.v j)) p1 ⟨.inl rfl, by show Int.natAbs 0 < 2 ^ 67; decide, hw⟩ (fun ν => by simp [val]) (fun B hB => L2 hB) (Nat.le_of_ble_eq_true rfl) hp1
  · walk_at "go"
    exact q (.b 32 (.v j) (.i 1)) p1 ⟨.inr (.inr rfl), hw, by show Int.natAbs 1 < 2 ^ 67; decide⟩ (fun ν => by simp [val]) (fun B hB => L4 hB) (Nat.le_of_ble_eq_true rfl) hp1
  · walk_at "go"
    exact q (.u (.u (.v j))) p1 hw (fun ν => by simp [val]) (fun B hB => L1 hB) (Nat.le_of_ble_eq_true rfl) hp1
  · walk_at "go"
    refine hD p1 _ _ _ hp1 (by decide) (by decide) fun z1 p2 hz0 hz1 hp2 => ?_
    walk_at "go"
    have w2 : Wf (.i (1 + z1)) := by show Int.natAbs (1 + z1) < 2 ^ 67; omega
    exact q (.b 13 (.b 14 (.v j) (.i (1 + z1))) (.i (1 + z1))) p2 ⟨.inr (.inl rfl), ⟨.inl rfl, hw, w2⟩, w2⟩ (fun ν => by simp [val]; try omega) (fun B hB => L3 hB) (Nat.le_of_ble_eq_true rfl) hp2
theorem other_i {G : Orc} (hD : DrawC G) {z : Int} (hw : Wf (.i z)) : OtherC (up G) (.i z) := by
  intro p R k hp q
  walk_at "go"
  refine hD p _ _ _ hp (by decide) (by decide) fun d p1 hd0 hd1 hp1 => ?_
  walk_at "go"
  rcases (by omega : d = 0 ∨ d = 1 ∨ d = 2 ∨ d = 3 ∨ d = 4) with rfl | rfl | rfl | rfl | rfl
  · walk_at "go"
    exact q (.i z) p1 hw (fun ν => rfl) (fun B hB => L1 hB) (Nat.le_of_ble_eq_true rfl) hp1
  · walk_at "go"
    exact q (.b 14 (.i 0) (.i z)) p1 ⟨.inl rfl, by show Int.natAbs 0 < 2 ^ 67; decide, hw⟩ (fun ν => by simp [val]) (fun B hB => L2 hB) (Nat.le_of_ble_eq_true rfl) hp1
  · walk_at "go"
    exact q (.b 32 (.i z) (.i 1)) p1 ⟨.inr (.inr rfl), hw, by show Int.natAbs 1 < 2 ^ 67; decide⟩ (fun ν => by simp [val]) (fun B hB => L4 hB) (Nat.le_of_ble_eq_true rfl) hp1
  · walk_at "go"
    exact q (.u (.u (.i z))) p1 hw (fun ν => by simp [val]) (fun B hB => L1 hB) (Nat.le_of_ble_eq_true rfl) hp1
  · walk_at "go"
    refine hD p1 _ _ _ hp1 (by decide) (by decide) fun z1 p2 hz0 hz1 hp2 => ?_
    walk_at "go"
    have w2 : Wf (.i (1 + z1)) := by show Int.natAbs (1 + z1) < 2 ^ 67; omega
    exact q (.b 13 (.b 14 (.i z) (.i (1 + z1))) (.i (1 + z1))) p2 ⟨.inr (.inl rfl), ⟨.inl rfl, hw, w2⟩, w2⟩ (fun ν => by simp [val]; try omega) (fun B hB => L3 hB) (Nat.le_of_ble_eq_true rfl) hp2

theorem other_u {G : Orc} (hD : DrawC G) {a : Tr} (hO : OtherC G a) : OtherC (up G) (.u a) := by
  intro p R k hp q
  walk_at "go"
  refine hD p _ _ _ hp (by decide) (by decide) fun d p1 hd0 hd1 hp1 => ?_
  walk_at "go"
  refine hO p1 _ _ hp1 fun t1 p2 w1 v1 n1 z1 hp2 => ?_
  have he := ex_ge a
  have hup : ∀ B, 4 ≤ B → nm B t1 ≤ B ^ (ex a + 1) := fun B hB => Nat.le_trans (n1 B hB) (Nat.pow_le_pow_right (by omega) (Nat.le_succ _))
  rcases (by omega : d = 0 ∨ d = 1 ∨ d = 2 ∨ d = 3 ∨ d = 4) with rfl | rfl | rfl | rfl | rfl
  · walk_at "go"
    exact q (.u t1) p2 w1 (fun ν => by simp [val, v1]) hup (by show sz t1 + 1 ≤ sm a + 2; omega) hp2
  · walk_at "go"
    exact q (.b 13 (.i 0) t1) p2 ⟨.inr (.inl rfl), by show Int.natAbs 0 < 2 ^ 67; decide, w1⟩ (fun ν => by simp [val, v1]) (fun B hB => by
      have := nm_add hB (by decide) (by omega) L0 (n1 B hB)
      rw [Nat.add_comm 1] at this; exact this) (by show 1 + sz t1 + 1 ≤ sm a + 2; omega) hp2
  · walk_at "go"
    exact q (.b 32 (.i (-1)) t1) p2 ⟨.inr (.inr rfl), by show Int.natAbs (-1) < 2 ^ 67; decide, w1⟩ (fun ν => by simp [val, v1]) (fun B hB => by
      have := nm_mul L0 (n1 B hB)
      rw [Nat.add_comm 1] at this; exact this) (by show 1 + sz t1 + 1 ≤ sm a + 2; omega) hp2
  · walk_at "go"
    exact q (.u t1) p2 w1 (fun ν => by simp [val, v1]) hup (by show sz t1 + 1 ≤ sm a + 2; omega) hp2
  · walk_at "go"
    exact q (.u t1) p2 w1 (fun ν => by simp [val, v1]) hup (by show sz t1 + 1 ≤ sm a + 2; omega) hp2
end Mine
end

section
open PySem Mine
set_option Elab.async false
set_option maxRecDepth 100000
set_option linter.unusedVariables false
set_option maxHeartbeats 8000000

namespace Mine
local macro_rules | `(tactic| walk_at "go") => `(tactic| ((conv => whnf); (repeat (refine ⟨by first | decide | exact Nat.le_of_ble_eq_true rfl | decide +kernel, ?_⟩; (conv => whnf)))))

theorem other_b14 {G : Orc} (hD : DrawC G) {x y : Tr} (hx : OtherC G x) (hy : OtherC G y) : OtherC (up G) (.b 14 x y) := by
  intro p R k hp q
  walk_at "go"
  refine hD p _ _ _ hp (by decide) (by decide) fun d p1 hd0 hd1 hp1 => ?_
  walk_at "go"
  have e1 := ex_ge x
  rcases (by omega : d = 0 ∨ d = 1 ∨ d = 2 ∨ d = 3 ∨ d = 4) with rfl | rfl | rfl | rfl | rfl
  · walk_at "go"
    refine hx p1 R _ hp1 fun t1 p2 w1 v1 n1 z1 hp2 => ?_
    walk_at "go"
    refine hy p2 R _ hp2 fun t2 p3 w2 v2 n2 z2 hp3 => ?_
    walk_at "go"
    have ey := ex_ge y
    have nn : ∀ B, 4 ≤ B → nm B t1 + nm B t2 ≤ B ^ (ex x + ex y) := fun B hB => nm_add hB (by omega) (by omega) (n1 B hB) (n2 B hB)
    exact q (.b 14 t1 t2) p3 ⟨.inl rfl, w1, w2⟩ (fun ν => by first | (simp [val, v1, v2]; done) | (simp [val, v1, v2]; omega) | (simp [val, v1, v2, Int.mul_comm]; done)) nn (by simp only [sz, sm] at *; omega) hp3
  · walk_at "go"
    refine hx p1 R _ hp1 fun t1 p2 w1 v1 n1 z1 hp2 => ?_
    walk_at "go"
    refine hy p2 R _ hp2 fun t2 p3 w2 v2 n2 z2 hp3 => ?_
    walk_at "go"
    have ey := ex_ge y
    have nn : ∀ B, 4 ≤ B → nm B t1 + nm B t2 ≤ B ^ (ex x + ex y) := fun B hB => nm_add hB (by omega) (by omega) (n1 B hB) (n2 B hB)
    exact q (.b 14 t1 t2) p3 ⟨.inl rfl, w1, w2⟩ (fun ν => by first | (simp [val, v1, v2]; done) | (simp [val, v1, v2]; omega) | (simp [val, v1, v2, Int.mul_comm]; done)) nn (by simp only [sz, sm] at *; omega) hp3
  · walk_at "go"
    refine hx p1 R _ hp1 fun t1 p2 w1 v1 n1 z1 hp2 => ?_
    walk_at "go"
    refine hy p2 R _ hp2 fun t2 p3 w2 v2 n2 z2 hp3 => ?_
    walk_at "go"
    have ey := ex_ge y
    have nn : ∀ B, 4 ≤ B → nm B t2 + nm B t1 ≤ B ^ (ex x + ex y) := fun B hB => by rw [Nat.add_comm (nm B t2)]; exact nm_add hB (by omega) (by omega) (n1 B hB) (n2 B hB)
    exact q (.b 14 t2 t1) p3 ⟨.inl rfl, w2, w1⟩ (fun ν => by first | (simp [val, v1, v2]; done) | (simp [val, v1, v2]; omega) | (simp [val, v1, v2, Int.mul_comm]; done)) nn (by simp only [sz, sm] at *; omega) hp3
  · walk_at "go"
    refine hx p1 R _ hp1 fun t1 p2 w1 v1 n1 z1 hp2 => ?_
    walk_at "go"
    refine hy p2 R _ hp2 fun t2 p3 w2 v2 n2 z2 hp3 => ?_
    walk_at "go"
    have ey := ex_ge y
    have nn : ∀ B, 4 ≤ B → nm B t1 + nm B t2 ≤ B ^ (ex x + ex y) := fun B hB => nm_add hB (by omega) (by omega) (n1 B hB) (n2 B hB)
    exact q (.b 13 t1 (.u t2)) p3 ⟨.inr (.inl rfl), w1, w2⟩ (fun ν => by first | (simp [val, v1, v2]; done) | (simp [val, v1, v2]; omega) | (simp [val, v1, v2, Int.mul_comm]; done)) nn (by simp only [sz, sm] at *; omega) hp3
  · walk_at "go"
    refine hx p1 R _ hp1 fun t1 p2 w1 v1 n1 z1 hp2 => ?_
    walk_at "go"
    refine hy p2 R _ hp2 fun t2 p3 w2 v2 n2 z2 hp3 => ?_
    walk_at "go"
    have ey := ex_ge y
    have nn : ∀ B, 4 ≤ B → nm B t1 + nm B t2 ≤ B ^ (ex x + ex y) := fun B hB => nm_add hB (by omega) (by omega) (n1 B hB) (n2 B hB)
    exact q (.b 14 t1 t2) p3 ⟨.inl rfl, w1, w2⟩ (fun ν => by first | (simp [val, v1, v2]; done) | (simp [val, v1, v2]; omega) | (simp [val, v1, v2, Int.mul_comm]; done)) nn (by simp only [sz, sm] at *; omega) hp3

theorem other_b13 {G : Orc} (hD : DrawC G) {x y : Tr} (hx : OtherC G x) (hy : OtherC G y) : OtherC (up G) (.b 13 x y) := by
  intro p R k hp q
  walk_at "go"
  refine hD p _ _ _ hp (by decide) (by decide) fun d p1 hd0 hd1 hp1 => ?_
  walk_at "go"
  have e1 := ex_ge x
  rcases (by omega : d = 0 ∨ d = 1 ∨ d = 2 ∨ d = 3 ∨ d = 4) with rfl | rfl | rfl | rfl | rfl
  · walk_at "go"
    refine hx p1 R _ hp1 fun t1 p2 w1 v1 n1 z1 hp2 => ?_
    walk_at "go"
    refine hy p2 R _ hp2 fun t2 p3 w2 v2 n2 z2 hp3 => ?_
    walk_at "go"
    have ey := ex_ge y
    have nn : ∀ B, 4 ≤ B → nm B t1 + nm B t2 ≤ B ^ (ex x + ex y) := fun B hB => nm_add hB (by omega) (by omega) (n1 B hB) (n2 B hB)
    exact q (.b 13 t1 t2) p3 ⟨.inr (.inl rfl), w1, w2⟩ (fun ν => by first | (simp [val, v1, v2]; done) | (simp [val, v1, v2]; omega) | (simp [val, v1, v2, Int.mul_comm]; done)) nn (by simp only [sz, sm] at *; omega) hp3
  · walk_at "go"
    refine hx p1 R _ hp1 fun t1 p2 w1 v1 n1 z1 hp2 => ?_
    walk_at "go"
    refine hy p2 R _ hp2 fun t2 p3 w2 v2 n2 z2 hp3 => ?_
    walk_at "go"
    have ey := ex_ge y
    have nn : ∀ B, 4 ≤ B → nm B t1 + nm B t2 ≤ B ^ (ex x + ex y) := fun B hB => nm_add hB (by omega) (by omega) (n1 B hB) (n2 B hB)
    exact q (.b 13 t1 t2) p3 ⟨.inr (.inl rfl), w1, w2⟩ (fun ν => by first | (simp [val, v1, v2]; done) | (simp [val, v1, v2]; omega) | (simp [val, v1, v2, Int.mul_comm]; done)) nn (by simp only [sz, sm] at *; omega) hp3
  · walk_at "go"
    refine hx p1 R _ hp1 fun t1 p2 w1 v1 n1 z1 hp2 => ?_
    walk_at "go"
    refine hy p2 R _ hp2 fun t2 p3 w2 v2 n2 z2 hp3 => ?_
    walk_at "go"
    have ey := ex_ge y
    have nn : ∀ B, 4 ≤ B → nm B t2 + nm B t1 ≤ B ^ (ex x + ex y) := fun B hB => by rw [Nat.add_comm (nm B t2)]; exact nm_add hB (by omega) (by omega) (n1 B hB) (n2 B hB)
    exact q (.b 14 (.u t2) t1) p3 ⟨.inl rfl, w2, w1⟩ (fun ν => by first | (simp [val, v1, v2]; done) | (simp [val, v1, v2]; omega) | (simp [val, v1, v2, Int.mul_comm]; done)) nn (by simp only [sz, sm] at *; omega) hp3
  · walk_at "go"
    refine hx p1 R _ hp1 fun t1 p2 w1 v1 n1 z1 hp2 => ?_
    walk_at "go"
    refine hy p2 R _ hp2 fun t2 p3 w2 v2 n2 z2 hp3 => ?_
    walk_at "go"
    have ey := ex_ge y
    have nn : ∀ B, 4 ≤ B → nm B t2 + nm B t1 ≤ B ^ (ex x + ex y) := fun B hB => by rw [Nat.add_comm (nm B t2)]; exact nm_add hB (by omega) (by omega) (n1 B hB) (n2 B hB)
    exact q (.u (.b 13 t2 t1)) p3 ⟨.inr (.inl rfl), w2, w1⟩ (fun ν => by first | (simp [val, v1, v2]; done) | (simp [val, v1, v2]; omega) | (simp [val, v1, v2, Int.mul_comm]; done)) nn (by simp only [sz, sm] at *; omega) hp3
  · walk_at "go"
    refine hx p1 R _ hp1 fun t1 p2 w1 v1 n1 z1 hp2 => ?_
    walk_at "go"
    refine hy p2 R _ hp2 fun t2 p3 w2 v2 n2 z2 hp3 => ?_
    walk_at "go"
    have ey := ex_ge y
    have nn : ∀ B, 4 ≤ B → nm B t1 + nm B t2 ≤ B ^ (ex x + ex y) := fun B hB => nm_add hB (by omega) (by omega) (n1 B hB) (n2 B hB)
    exact q (.b 14 t1 (.u t2)) p3 ⟨.inl rfl, w1, w2⟩ (fun ν => by first | (simp [val, v1, v2]; done) | (simp [val, v1, v2]; omega) | (simp [val, v1, v2, Int.mul_comm]; done)) nn (by simp only [sz, sm] at *; omega) hp3

theorem other_b32 {G : Orc} (hD : DrawC G) {x y : Tr} (hx : OtherC G x) (hy : OtherC G y) (hch : ∀ a b, y = .b 14 a b → OtherC G a ∧ OtherC G b) : OtherC (up G) (.b 32 x y) := by
  intro p R k hp q
  walk_at "go"
  refine hD p _ _ _ hp (by decide) (by decide) fun d p1 hd0 hd1 hp1 => ?_
  walk_at "go"
  have e1 := ex_ge x
  rcases (by omega : d = 0 ∨ d = 1 ∨ d = 2 ∨ d = 3 ∨ d = 4) with rfl | rfl | rfl | rfl | rfl
  · walk_at "go"
    refine hx p1 R _ hp1 fun t1 p2 w1 v1 n1 z1 hp2 => ?_
    walk_at "go"
    refine hy p2 R _ hp2 fun t2 p3 w2 v2 n2 z2 hp3 => ?_
    walk_at "go"
    have ey := ex_ge y
    have nn : ∀ B, 4 ≤ B → nm B t1 * nm B t2 ≤ B ^ (ex x + ex y) := fun B hB => nm_mul (n1 B hB) (n2 B hB)
    exact q (.b 32 t1 t2) p3 ⟨.inr (.inr rfl), w1, w2⟩ (fun ν => by first | (simp [val, v1, v2]; done) | (simp [val, v1, v2]; omega) | (simp [val, v1, v2, Int.mul_comm]; done)) nn (by simp only [sz, sm] at *; omega) hp3
  · rcases y with j | z | a | ⟨f', a, b⟩
    · walk_at "go"
      refine hx p1 R _ hp1 fun t1 p2 w1 v1 n1 z1 hp2 => ?_
      walk_at "go"
      refine hy p2 R _ hp2 fun t2 p3 w2 v2 n2 z2 hp3 => ?_
      walk_at "go"
      have ey := ex_ge (.v j)
      have nn : ∀ B, 4 ≤ B → nm B t1 * nm B t2 ≤ B ^ (ex x + ex (.v j)) := fun B hB => nm_mul (n1 B hB) (n2 B hB)
      exact q (.b 32 t1 t2) p3 ⟨.inr (.inr rfl), w1, w2⟩ (fun ν => by first | (simp [val, v1, v2]; done) | (simp [val, v1, v2]; omega) | (simp [val, v1, v2, Int.mul_comm]; done)) nn (by simp only [sz, sm] at *; omega) hp3
    · walk_at "go"
      refine hx p1 R _ hp1 fun t1 p2 w1 v1 n1 z1 hp2 => ?_
      walk_at "go"
      refine hy p2 R _ hp2 fun t2 p3 w2 v2 n2 z2 hp3 => ?_
      walk_at "go"
      have ey := ex_ge (.i z)
      have nn : ∀ B, 4 ≤ B → nm B t1 * nm B t2 ≤ B ^ (ex x + ex (.i z)) := fun B hB => nm_mul (n1 B hB) (n2 B hB)
      exact q (.b 32 t1 t2) p3 ⟨.inr (.inr rfl), w1, w2⟩ (fun ν => by first | (simp [val, v1, v2]; done) | (simp [val, v1, v2]; omega) | (simp [val, v1, v2, Int.mul_comm]; done)) nn (by simp only [sz, sm] at *; omega) hp3
    · walk_at "go"
      refine hx p1 R _ hp1 fun t1 p2 w1 v1 n1 z1 hp2 => ?_
      walk_at "go"
      refine hy p2 R _ hp2 fun t2 p3 w2 v2 n2 z2 hp3 => ?_
      walk_at "go"
      have ey := ex_ge (.u a)
      have nn : ∀ B, 4 ≤ B → nm B t1 * nm B t2 ≤ B ^ (ex x + ex (.u a)) := fun B hB => nm_mul (n1 B hB) (n2 B hB)
      exact q (.b 32 t1 t2) p3 ⟨.inr (.inr rfl), w1, w2⟩ (fun ν => by first | (simp [val, v1, v2]; done) | (simp [val, v1, v2]; omega) | (simp [val, v1, v2, Int.mul_comm]; done)) nn (by simp only [sz, sm] at *; omega) hp3
    · by_cases hf : f' = 14
      · subst hf
        obtain ⟨ha, hb⟩ := hch a b rfl
        walk_at "go"
        refine hx p1 R _ hp1 fun t1 p2 w1 v1 n1 z1 hp2 => ?_
        walk_at "go"
        refine ha p2 R _ hp2 fun t2 p3 w2 v2 n2 z2 hp3 => ?_
        walk_at "go"
        refine hb p3 R _ hp3 fun t3 p4 w3 v3 n3 z3 hp4 => ?_
        walk_at "go"
        have ea := ex_ge a
        have eb := ex_ge b
        refine q (.b 14 (.b 32 t1 t2) (.b 32 t1 t3)) p4 ⟨.inl rfl, ⟨.inr (.inr rfl), w1, w2⟩, ⟨.inr (.inr rfl), w1, w3⟩⟩ (fun ν => by simp [val, v1, v2, v3, Int.mul_add]) (fun B hB => ?_) (by simp only [sz, sm] at *; omega) hp4
        have h1 := nm_add hB (by omega) (by omega) (n2 B hB) (n3 B hB)
        have h2 := nm_mul (n1 B hB) h1
        rw [Nat.mul_add] at h2
        exact h2
      · have hf2 : (f' == 14) = false := beq_eq_false_iff_ne.mpr hf
        walk_at "go"
        rw [hf2]
        walk_at "go"
        refine hx p1 R _ hp1 fun t1 p2 w1 v1 n1 z1 hp2 => ?_
        walk_at "go"
        refine hy p2 R _ hp2 fun t2 p3 w2 v2 n2 z2 hp3 => ?_
        walk_at "go"
        have ey := ex_ge (.b f' a b)
        have nn : ∀ B, 4 ≤ B → nm B t1 * nm B t2 ≤ B ^ (ex x + ex (.b f' a b)) := fun B hB => nm_mul (n1 B hB) (n2 B hB)
        exact q (.b 32 t1 t2) p3 ⟨.inr (.inr rfl), w1, w2⟩ (fun ν => by show val ν t1 * val ν t2 = val ν x * val ν (.b f' a b); rw [v1, v2]) nn (by simp only [sz, sm] at *; omega) hp3
  · walk_at "go"
    refine hx p1 R _ hp1 fun t1 p2 w1 v1 n1 z1 hp2 => ?_
    walk_at "go"
    refine hy p2 R _ hp2 fun t2 p3 w2 v2 n2 z2 hp3 => ?_
    walk_at "go"
    have ey := ex_ge y
    have nn : ∀ B, 4 ≤ B → nm B t2 * nm B t1 ≤ B ^ (ex x + ex y) := fun B hB => by rw [Nat.mul_comm (nm B t2)]; exact nm_mul (n1 B hB) (n2 B hB)
    exact q (.b 32 t2 t1) p3 ⟨.inr (.inr rfl), w2, w1⟩ (fun ν => by first | (simp [val, v1, v2]; done) | (simp [val, v1, v2]; omega) | (simp [val, v1, v2, Int.mul_comm]; done)) nn (by simp only [sz, sm] at *; omega) hp3
  · walk_at "go"
    refine hx p1 R _ hp1 fun t1 p2 w1 v1 n1 z1 hp2 => ?_
    walk_at "go"
    refine hy p2 R _ hp2 fun t2 p3 w2 v2 n2 z2 hp3 => ?_
    walk_at "go"
    have ey := ex_ge y
    have nn : ∀ B, 4 ≤ B → nm B t1 * nm B t2 ≤ B ^ (ex x + ex y) := fun B hB => nm_mul (n1 B hB) (n2 B hB)
    exact q (.b 32 (.u t1) (.u t2)) p3 ⟨.inr (.inr rfl), w1, w2⟩ (fun ν => by show -val ν t1 * -val ν t2 = val ν x * val ν y; rw [v1, v2, Int.neg_mul_neg]) nn (by simp only [sz, sm] at *; omega) hp3
  · walk_at "go"
    refine hx p1 R _ hp1 fun t1 p2 w1 v1 n1 z1 hp2 => ?_
    walk_at "go"
    refine hy p2 R _ hp2 fun t2 p3 w2 v2 n2 z2 hp3 => ?_
    walk_at "go"
    have ey := ex_ge y
    have nn : ∀ B, 4 ≤ B → nm B t1 * nm B t2 ≤ B ^ (ex x + ex y) := fun B hB => nm_mul (n1 B hB) (n2 B hB)
    exact q (.b 32 t1 t2) p3 ⟨.inr (.inr rfl), w1, w2⟩ (fun ν => by first | (simp [val, v1, v2]; done) | (simp [val, v1, v2]; omega) | (simp [val, v1, v2, Int.mul_comm]; done)) nn (by simp only [sz, sm] at *; omega) hp3


theorem other_ok : ∀ (n : Nat) (t : Tr) (m : Nat), sz t ≤ n → Wf t → OtherC (GG (m + n + 1)) t := by
  intro n
  induction n with
  | zero => intro t m h _; exfalso; cases t <;> simp [sz] at h
  | succ n ih =>
    intro t m h w
    have hD : DrawC (GG (m + n + 1)) := drawC (GG (m + n))
    show OtherC (up (GG (m + n + 1))) t
    cases t with
    | v j => exact other_v hD w
    | i z => exact other_i hD w
    | u a => exact other_u hD (ih a m (by simp only [sz] at h; omega) w)
    | b f x y =>
      simp only [sz] at h
      obtain ⟨hf, wx, wy⟩ := w
      have hx := ih x m (by omega) wx
      have hy := ih y m (by omega) wy
      rcases hf with rfl | rfl | rfl
      · exact other_b14 hD hx hy
      · exact other_b13 hD hx hy
      · refine other_b32 hD hx hy fun a b e => ?_
        subst e
        simp only [sz] at h
        obtain ⟨_, wa, wb⟩ := wy
        exact ⟨ih a m (by omega) wa, ih b m (by omega) wb⟩
end Mine
end

section
open PySem Mine
set_option Elab.async false
set_option maxRecDepth 100000
set_option linter.unusedVariables false
set_option maxHeartbeats 8000000

namespace Mine
local macro_rules | `(tactic| walk_at "go") => `(tactic| ((conv => whnf); (repeat (refine ⟨by first | decide | exact Nat.le_of_ble_eq_true rfl | decide +kernel, ?_⟩; (conv => whnf)))))

theorem sVI : sV ≠ sI := by decide +kernel
theorem sVS : sV ≠ sS := by decide +kernel
theorem sIS : sI ≠ sS := by decide +kernel

theorem enc_inj : ∀ {a b : Tr}, enc a = enc b → a = b
  | .v i, .v j, h => by simp [enc] at h; have : i = j := by omega
                        rw [this]
  | .v i, .i z, h => by simp [enc] at h; exact absurd h.1 sVI
  | .v i, .u a, h => by simp [enc] at h
  | .v i, .b f x y, h => by simp [enc] at h
  | .i i, .v j, h => by simp [enc] at h; exact absurd h.1.symm sVI
  | .i i, .i z, h => by simp [enc] at h; rw [h]
  | .i i, .u a, h => by simp [enc] at h
  | .i i, .b f x y, h => by simp [enc] at h
  | .u a, .v j, h => by simp [enc] at h
  | .u a, .i z, h => by simp [enc] at h
  | .u a, .u b, h => by simp [enc] at h; rw [enc_inj h]
  | .u a, .b f x y, h => by simp [enc] at h
  | .b f x y, .v j, h => by simp [enc] at h
  | .b f x y, .i z, h => by simp [enc] at h
  | .b f x y, .u b, h => by simp [enc] at h
  | .b f x y, .b g x' y', h => by simp [enc] at h; rw [h.1, enc_inj h.2.1, enc_inj h.2.2]

theorem pure_enc : ∀ t, pureV (enc t) = true
  | .v i => rfl
  | .i z => rfl
  | .u a => by show (true && (true && ((pureV (enc a) && true) && true))) = true; rw [pure_enc a]; rfl
  | .b f x y => by show (true && (true && ((pureV (enc x) && (pureV (enc y) && true)) && true))) = true; rw [pure_enc x, pure_enc y]; rfl

open Classical in
noncomputable def phi (ν : Nat → Int) (x : MV) : Int := if h : ∃ t, enc t = x then val ν (Classical.choose h) else 0
theorem phi_enc (ν : Nat → Int) (t : Tr) : phi ν (enc t) = val ν t := by
  have h : ∃ t', enc t' = enc t := ⟨t, rfl⟩
  unfold phi
  rw [dif_pos h, enc_inj (Classical.choose_spec h)]

theorem nm_pos {B : Nat} (hB : 1 ≤ B) : ∀ t, 1 ≤ nm B t
  | .v _ => hB
  | .i _ => hB
  | .u a => nm_pos hB a
  | .b f x y => by
    have hx := nm_pos hB x
    have hy := nm_pos hB y
    unfold nm
    split
    · exact Nat.mul_pos hx hy
    · omega
theorem nm_left {B : Nat} (hB : 1 ≤ B) (f : Int) (x y : Tr) : nm B x ≤ nm B (.b f x y) := by
  have hy := nm_pos hB y
  show nm B x ≤ (if f = 32 then nm B x * nm B y else nm B x + nm B y)
  split
  · exact Nat.le_mul_of_pos_right _ hy
  · omega
theorem nm_right {B : Nat} (hB : 1 ≤ B) (f : Int) (x y : Tr) : nm B y ≤ nm B (.b f x y) := by
  have hx := nm_pos hB x
  show nm B y ≤ (if f = 32 then nm B x * nm B y else nm B x + nm B y)
  split
  · exact Nat.le_mul_of_pos_left _ hx
  · omega

theorem val_le {B : Nat} {ν : Nat → Int} (hν : ∀ i, (ν i).natAbs ≤ B) (h67 : 2 ^ 67 ≤ B) : ∀ t, Wf t → (val ν t).natAbs ≤ nm B t
  | .v i, _ => hν i
  | .i z, h => Nat.le_trans (Nat.le_of_lt h) h67
  | .u a, h => by show (- val ν a).natAbs ≤ nm B a; rw [Int.natAbs_neg]; exact val_le hν h67 a h
  | .b f x y, ⟨hf, hx, hy⟩ => by
    have ix := val_le hν h67 x hx
    have iy := val_le hν h67 y hy
    rcases hf with rfl | rfl | rfl
    · show (val ν x + val ν y).natAbs ≤ nm B x + nm B y; omega
    · show (val ν x - val ν y).natAbs ≤ nm B x + nm B y; omega
    · show (val ν x * val ν y).natAbs ≤ nm B x * nm B y; rw [Int.natAbs_mul]; exact Nat.mul_le_mul ix iy

/-- the three numbers -/
noncomputable def nus (a b c : Int) (i : Nat) : Int := match i with
  | 0 => a
  | 1 => b
  | 2 => c
  | _ => 0

noncomputable def ValueC (G : Orc) (a b c : Int) (t : Tr) : Prop := ∀ (O : List MO) (k : MV → List MO → Prop), k (.int (val (nus a b c) t)) O → G 776 [enc t, .flist [.int a, .int b, .int c]] O k

theorem value_step {G : Orc} {a b c : Int} {B : Nat} (hν : ∀ i, (nus a b c i).natAbs ≤ B) (h67 : 2 ^ 67 ≤ B) : ∀ t, Wf t → nm B t < 2 ^ 30000 → (∀ t', sz t' < sz t → Wf t' → nm B t' < 2 ^ 30000 → ValueC G a b c t') → ValueC (up G) a b c t
  | .v i, h, _, _ => by
    intro O k q
    have h : i < 3 := h
    rcases (by omega : i = 0 ∨ i = 1 ∨ i = 2) with rfl | rfl | rfl
    · walk_at "go"; exact q
    · walk_at "go"; exact q
    · walk_at "go"; exact q
  | .i z, h, _, _ => by
    intro O k q
    walk_at "go"; exact q
  | .u t, h, hn, hT => by
    intro O k q
    walk_at "go"
    have hp : pureVs [enc t] = true := by show (pureV (enc t) && true) = true; rw [pure_enc]; rfl
    refine ⟨hp, ?_⟩
    walk_at "go"
    refine ⟨rfl, phi (nus a b c), fun x hx => ?_, ?_⟩
    · obtain rfl := List.mem_singleton.mp hx
      refine hT t (by show sz t < sz t + 1; omega) h hn [] _ ?_
      rw [phi_enc]
    · walk_at "go"
      have q' : k (.int (- val (nus a b c) t)) O := q
      rw [← phi_enc] at q'
      exact q'
  | .b f x y, h, hn, hT => by
    intro O k q
    have hB : 1 ≤ B := Nat.le_trans (by decide) h67
    have nx := Nat.lt_of_le_of_lt (nm_left hB f x y) hn
    have ny := Nat.lt_of_le_of_lt (nm_right hB f x y) hn
    obtain ⟨hf, hx, hy⟩ := h
    have vx := Nat.lt_of_le_of_lt (val_le hν h67 x hx) nx
    have vy := Nat.lt_of_le_of_lt (val_le hν h67 y hy) ny
    have hp : pureVs [enc x, enc y] = true := by show (pureV (enc x) && (pureV (enc y) && true)) = true; rw [pure_enc, pure_enc]; rfl
    have hall : ∀ z ∈ [enc x, enc y], G 776 [z, .flist [.int a, .int b, .int c]] [] fun v _ => v = .int (phi (nus a b c) z) := fun z hz => by
      rcases List.mem_cons.mp hz with rfl | hz
      · exact hT x (by show sz x < sz x + sz y + 1; omega) hx nx [] _ (by rw [phi_enc])
      · obtain rfl := List.mem_singleton.mp hz
        exact hT y (by show sz y < sz x + sz y + 1; omega) hy ny [] _ (by rw [phi_enc])
    rcases hf with rfl | rfl | rfl
    · walk_at "go"
      refine ⟨hp, ?_⟩
      walk_at "go"
      refine ⟨rfl, phi (nus a b c), hall, ?_⟩
      walk_at "go"
      have q' : k (.int (val (nus a b c) x + val (nus a b c) y)) O := q
      rw [← phi_enc, ← phi_enc] at q'
      exact q'
    · walk_at "go"
      refine ⟨hp, ?_⟩
      walk_at "go"
      refine ⟨rfl, phi (nus a b c), hall, ?_⟩
      walk_at "go"
      have q' : k (.int (val (nus a b c) x - val (nus a b c) y)) O := q
      rw [← phi_enc, ← phi_enc] at q'
      exact q'
    · walk_at "go"
      refine ⟨hp, ?_⟩
      walk_at "go"
      refine ⟨rfl, phi (nus a b c), hall, ?_⟩
      walk_at "go"
      refine ⟨by rw [phi_enc]; exact vx, by rw [phi_enc]; exact vy, ?_⟩
      walk_at "go"
      have q' : k (.int (val (nus a b c) x * val (nus a b c) y)) O := q
      rw [← phi_enc, ← phi_enc] at q'
      exact q'

theorem value_ok {a b c : Int} {B : Nat} (hν : ∀ i, (nus a b c i).natAbs ≤ B) (h67 : 2 ^ 67 ≤ B) : ∀ (n : Nat) (t : Tr) (m : Nat), sz t ≤ n → Wf t → nm B t < 2 ^ 30000 → ValueC (GG (m + n)) a b c t := by
  intro n
  induction n with
  | zero => intro t m h; exfalso; cases t <;> simp [sz] at h
  | succ n ih =>
    intro t m h w hn
    show ValueC (up (GG (m + n))) a b c t
    exact value_step hν h67 t w hn fun t' h' w' hn' => ih t' m (by omega) w' hn'
end Mine
end

section
open PySem Mine
set_option Elab.async false
set_option maxRecDepth 100000
set_option linter.unusedVariables false
set_option maxHeartbeats 8000000

namespace Mine
local macro_rules | `(tactic| walk_at "go") => `(tactic| ((conv => whnf); (repeat (refine ⟨by first | decide | exact Nat.le_of_ble_eq_true rfl | decide +kernel, ?_⟩; (conv => whnf)))))

noncomputable def sy3 : Sy := addF sy2 (Str.ofString "*", 2)
noncomputable def areF : List (Nat × MV) := [(8, .own 1), (15, .flist []), (9, .int 100000), (16, .bool true), (17, .int 4096), (18, .own 7), (19, .own 9), (20, .int 0), (21, .int 0), (22, .int (-1)), (23, .int (-1)), (24, .int (-1)), (25, .str (Str.ofString "read")), (26, .int 0), (27, .tup [.int 5, .int 0]), (28, .flist []), (29, .own 10), (30, .bool false)]
noncomputable def stoF : List (Nat × MV) := [(8, .own 1), (9, .int 100000), (10, .own 8), (11, .flist []), (12, .flist []), (13, .int 0), (14, .int 0)]

noncomputable abbrev Om (s : Sy) (p : MO) (h xl : List MV) (J : List MO) : List MO := p :: .inst 154 symF :: .list s.T :: .dict s.A :: .list s.F :: .dict s.N :: .inst 746 areF :: .inst 423 stoF :: .list h :: .list xl :: .dict [] :: J

section
variable {G : Orc} {p : MO} {h xl : List MV} {J : List MO} {k : MV → List MO → Prop} {s : Sy}

theorem cut {a : MS} {r : MSs} {σ σ' : S} {K : Fl → S → Prop} (h1 : ∀ K : Fl → S → Prop, K .next σ' → evS G tab a σ K) (h2 : evSs G tab r σ' K) : evSs G tab (.cons a r) σ K := h1 _ h2

theorem store_init (q : k .none (symS p s (.inst 746 [(8, .own 1), (15, .flist []), (9, .int 100000), (16, .bool true), (17, .int 4096)] :: .inst 423 stoF :: .list [] :: []))) : up G 237 [.own 7, .own 1, .int 100000] (symS p s (.inst 746 [(8, .own 1), (15, .flist []), (9, .int 100000), (16, .bool true), (17, .int 4096)] :: .inst 423 [] :: [])) k := by
  conv => whnf
  refine ⟨Nat.le_of_ble_eq_true rfl, Nat.le_of_ble_eq_true rfl, ?_⟩
  refine cut (σ' := ⟨[some (.own 7), some (.own 1), some (.int 100000)], symS p s (.inst 746 [(8, .own 1), (15, .flist []), (9, .int 100000), (16, .bool true), (17, .int 4096)] :: .inst 423 [(8, .own 1)] :: [])⟩) (fun K hK => by walk_at "go"; exact hK) ?_
  refine cut (σ' := ⟨[some (.own 7), some (.own 1), some (.int 100000)], symS p s (.inst 746 [(8, .own 1), (15, .flist []), (9, .int 100000), (16, .bool true), (17, .int 4096)] :: .inst 423 [(8, .own 1), (9, .int 100000)] :: [])⟩) (fun K hK => by walk_at "go"; exact hK) ?_
  refine cut (σ' := ⟨[some (.own 7), some (.own 1), some (.int 100000)], symS p s (.inst 746 [(8, .own 1), (15, .flist []), (9, .int 100000), (16, .bool true), (17, .int 4096)] :: .inst 423 [(8, .own 1), (9, .int 100000), (10, .own 8)] :: .list [] :: [])⟩) (fun K hK => by walk_at "go"; exact hK) ?_
  refine cut (σ' := ⟨[some (.own 7), some (.own 1), some (.int 100000)], symS p s (.inst 746 [(8, .own 1), (15, .flist []), (9, .int 100000), (16, .bool true), (17, .int 4096)] :: .inst 423 [(8, .own 1), (9, .int 100000), (10, .own 8), (11, .flist [])] :: .list [] :: [])⟩) (fun K hK => by walk_at "go"; exact hK) ?_
  refine cut (σ' := ⟨[some (.own 7), some (.own 1), some (.int 100000)], symS p s (.inst 746 [(8, .own 1), (15, .flist []), (9, .int 100000), (16, .bool true), (17, .int 4096)] :: .inst 423 [(8, .own 1), (9, .int 100000), (10, .own 8), (11, .flist []), (12, .flist [])] :: .list [] :: [])⟩) (fun K hK => by walk_at "go"; exact hK) ?_
  refine cut (σ' := ⟨[some (.own 7), some (.own 1), some (.int 100000)], symS p s (.inst 746 [(8, .own 1), (15, .flist []), (9, .int 100000), (16, .bool true), (17, .int 4096)] :: .inst 423 [(8, .own 1), (9, .int 100000), (10, .own 8), (11, .flist []), (12, .flist []), (13, .int 0)] :: .list [] :: [])⟩) (fun K hK => by walk_at "go"; exact hK) ?_
  refine cut (σ' := ⟨[some (.own 7), some (.own 1), some (.int 100000)], symS p s (.inst 746 [(8, .own 1), (15, .flist []), (9, .int 100000), (16, .bool true), (17, .int 4096)] :: .inst 423 [(8, .own 1), (9, .int 100000), (10, .own 8), (11, .flist []), (12, .flist []), (13, .int 0), (14, .int 0)] :: .list [] :: [])⟩) (fun K hK => by walk_at "go"; exact hK) ?_
  exact q

theorem reset_areas (q : k .none (Om s p [] [.tup [.int 5, .int 0]] [])) : up (up G) 610 [.own 6] (symS p s (.inst 746 [(8, .own 1), (15, .flist []), (9, .int 100000), (16, .bool true), (17, .int 4096)] :: [])) k := by
  conv => whnf
  refine ⟨Nat.le_of_ble_eq_true rfl, Nat.le_of_ble_eq_true rfl, ?_⟩
  refine cut (σ' := ⟨[some (.own 6)], symS p s (.inst 746 [(8, .own 1), (15, .flist []), (9, .int 100000), (16, .bool true), (17, .int 4096), (18, .own 7)] :: .inst 423 stoF :: .list [] :: [])⟩) (fun K hK => ?_) ?_
  · generalize hU : up G = U
    walk_at "go"
    subst hU
    refine store_init ?_
    walk_at "go"
    exact hK
  refine cut (σ' := ⟨[some (.own 6)], symS p s (.inst 746 [(8, .own 1), (15, .flist []), (9, .int 100000), (16, .bool true), (17, .int 4096), (18, .own 7), (19, .own 9)] :: .inst 423 stoF :: .list [] :: .list [.tup [.int 5, .int 0]] :: [])⟩) (fun K hK => by walk_at "go"; exact hK) ?_
  refine cut (σ' := ⟨[some (.own 6)], symS p s (.inst 746 [(8, .own 1), (15, .flist []), (9, .int 100000), (16, .bool true), (17, .int 4096), (18, .own 7), (19, .own 9), (20, .int 0)] :: .inst 423 stoF :: .list [] :: .list [.tup [.int 5, .int 0]] :: [])⟩) (fun K hK => by walk_at "go"; exact hK) ?_
  refine cut (σ' := ⟨[some (.own 6)], symS p s (.inst 746 [(8, .own 1), (15, .flist []), (9, .int 100000), (16, .bool true), (17, .int 4096), (18, .own 7), (19, .own 9), (20, .int 0), (21, .int 0)] :: .inst 423 stoF :: .list [] :: .list [.tup [.int 5, .int 0]] :: [])⟩) (fun K hK => by walk_at "go"; exact hK) ?_
  refine cut (σ' := ⟨[some (.own 6)], symS p s (.inst 746 [(8, .own 1), (15, .flist []), (9, .int 100000), (16, .bool true), (17, .int 4096), (18, .own 7), (19, .own 9), (20, .int 0), (21, .int 0), (22, .int (-1))] :: .inst 423 stoF :: .list [] :: .list [.tup [.int 5, .int 0]] :: [])⟩) (fun K hK => by walk_at "go"; exact hK) ?_
  refine cut (σ' := ⟨[some (.own 6)], symS p s (.inst 746 [(8, .own 1), (15, .flist []), (9, .int 100000), (16, .bool true), (17, .int 4096), (18, .own 7), (19, .own 9), (20, .int 0), (21, .int 0), (22, .int (-1)), (23, .int (-1))] :: .inst 423 stoF :: .list [] :: .list [.tup [.int 5, .int 0]] :: [])⟩) (fun K hK => by walk_at "go"; exact hK) ?_
  refine cut (σ' := ⟨[some (.own 6)], symS p s (.inst 746 [(8, .own 1), (15, .flist []), (9, .int 100000), (16, .bool true), (17, .int 4096), (18, .own 7), (19, .own 9), (20, .int 0), (21, .int 0), (22, .int (-1)), (23, .int (-1)), (24, .int (-1))] :: .inst 423 stoF :: .list [] :: .list [.tup [.int 5, .int 0]] :: [])⟩) (fun K hK => by walk_at "go"; exact hK) ?_
  refine cut (σ' := ⟨[some (.own 6)], symS p s (.inst 746 [(8, .own 1), (15, .flist []), (9, .int 100000), (16, .bool true), (17, .int 4096), (18, .own 7), (19, .own 9), (20, .int 0), (21, .int 0), (22, .int (-1)), (23, .int (-1)), (24, .int (-1)), (25, .str (Str.ofString "read"))] :: .inst 423 stoF :: .list [] :: .list [.tup [.int 5, .int 0]] :: [])⟩) (fun K hK => by walk_at "go"; exact hK) ?_
  refine cut (σ' := ⟨[some (.own 6)], symS p s (.inst 746 [(8, .own 1), (15, .flist []), (9, .int 100000), (16, .bool true), (17, .int 4096), (18, .own 7), (19, .own 9), (20, .int 0), (21, .int 0), (22, .int (-1)), (23, .int (-1)), (24, .int (-1)), (25, .str (Str.ofString "read")), (26, .int 0)] :: .inst 423 stoF :: .list [] :: .list [.tup [.int 5, .int 0]] :: [])⟩) (fun K hK => by walk_at "go"; exact hK) ?_
  refine cut (σ' := ⟨[some (.own 6)], symS p s (.inst 746 [(8, .own 1), (15, .flist []), (9, .int 100000), (16, .bool true), (17, .int 4096), (18, .own 7), (19, .own 9), (20, .int 0), (21, .int 0), (22, .int (-1)), (23, .int (-1)), (24, .int (-1)), (25, .str (Str.ofString "read")), (26, .int 0), (27, .tup [.int 5, .int 0])] :: .inst 423 stoF :: .list [] :: .list [.tup [.int 5, .int 0]] :: [])⟩) (fun K hK => by walk_at "go"; exact hK) ?_
  refine cut (σ' := ⟨[some (.own 6)], symS p s (.inst 746 [(8, .own 1), (15, .flist []), (9, .int 100000), (16, .bool true), (17, .int 4096), (18, .own 7), (19, .own 9), (20, .int 0), (21, .int 0), (22, .int (-1)), (23, .int (-1)), (24, .int (-1)), (25, .str (Str.ofString "read")), (26, .int 0), (27, .tup [.int 5, .int 0]), (28, .flist [])] :: .inst 423 stoF :: .list [] :: .list [.tup [.int 5, .int 0]] :: [])⟩) (fun K hK => by walk_at "go"; exact hK) ?_
  refine cut (σ' := ⟨[some (.own 6)], symS p s (.inst 746 [(8, .own 1), (15, .flist []), (9, .int 100000), (16, .bool true), (17, .int 4096), (18, .own 7), (19, .own 9), (20, .int 0), (21, .int 0), (22, .int (-1)), (23, .int (-1)), (24, .int (-1)), (25, .str (Str.ofString "read")), (26, .int 0), (27, .tup [.int 5, .int 0]), (28, .flist []), (29, .own 10)] :: .inst 423 stoF :: .list [] :: .list [.tup [.int 5, .int 0]] :: .dict [] :: [])⟩) (fun K hK => by walk_at "go"; exact hK) ?_
  refine cut (σ' := ⟨[some (.own 6)], symS p s (.inst 746 [(8, .own 1), (15, .flist []), (9, .int 100000), (16, .bool true), (17, .int 4096), (18, .own 7), (19, .own 9), (20, .int 0), (21, .int 0), (22, .int (-1)), (23, .int (-1)), (24, .int (-1)), (25, .str (Str.ofString "read")), (26, .int 0), (27, .tup [.int 5, .int 0]), (28, .flist []), (29, .own 10), (30, .bool false)] :: .inst 423 stoF :: .list [] :: .list [.tup [.int 5, .int 0]] :: .dict [] :: [])⟩) (fun K hK => by walk_at "go"; exact hK) ?_
  exact q

theorem init_areas (q : k .none (Om s p [] [.tup [.int 5, .int 0]] [])) : up (up (up G)) 603 [.own 6, .own 1, .flist []] (symS p s [.inst 746 []]) k := by
  conv => whnf
  refine ⟨Nat.le_of_ble_eq_true rfl, Nat.le_of_ble_eq_true rfl, ?_⟩
  refine cut (σ' := ⟨[some (.own 6), some (.own 1), some (.flist []), some (.int 100000), some (.bool true), some (.int 4096)], symS p s (.inst 746 [(8, .own 1)] :: [])⟩) (fun K hK => by walk_at "go"; exact hK) ?_
  refine cut (σ' := ⟨[some (.own 6), some (.own 1), some (.flist []), some (.int 100000), some (.bool true), some (.int 4096)], symS p s (.inst 746 [(8, .own 1), (15, .flist [])] :: [])⟩) (fun K hK => by walk_at "go"; exact hK) ?_
  refine cut (σ' := ⟨[some (.own 6), some (.own 1), some (.flist []), some (.int 100000), some (.bool true), some (.int 4096)], symS p s (.inst 746 [(8, .own 1), (15, .flist []), (9, .int 100000)] :: [])⟩) (fun K hK => by walk_at "go"; exact hK) ?_
  refine cut (σ' := ⟨[some (.own 6), some (.own 1), some (.flist []), some (.int 100000), some (.bool true), some (.int 4096)], symS p s (.inst 746 [(8, .own 1), (15, .flist []), (9, .int 100000), (16, .bool true)] :: [])⟩) (fun K hK => by walk_at "go"; exact hK) ?_
  refine cut (σ' := ⟨[some (.own 6), some (.own 1), some (.flist []), some (.int 100000), some (.bool true), some (.int 4096)], symS p s (.inst 746 [(8, .own 1), (15, .flist []), (9, .int 100000), (16, .bool true), (17, .int 4096)] :: [])⟩) (fun K hK => by walk_at "go"; exact hK) ?_
  generalize hU : up (up G) = U
  walk_at "go"
  subst hU
  refine reset_areas ?_
  walk_at "go"
  exact q

theorem times_e : aInt (getK (.ks (Str.ofString "*")) sy2.A) = some 5 := by decide +kernel
theorem times_a : allKin (.ks (Str.ofString "*")) sy2.A := by unfold allKin; decide +kernel
theorem times_n : getK (.kt [5, 2]) sy2.N = none := by
  have : (getK (.kt [5, 2]) sy2.N).isNone = true := by decide +kernel
  exact Option.isNone_iff_eq_none.mp this
theorem times_k : allKin (.kt [5, 2]) sy2.N := by unfold allKin; decide +kernel
theorem times_l : sy2.F.length = 32 ∧ sy2.N.length < 1000000 := by decide +kernel
theorem sy3_eq : sy3 = ⟨sy2.T, sy2.A, sy2.F ++ [.tup [.int 5, .int 2]], putK (.kt [5, 2]) (.int sy2.F.length) sy2.N⟩ := by unfold sy3 addF; rw [times_e]
theorem times_new (q : k (.int 32) (symS p sy3 [])) : up (up G) 109 [.own 1, .str (Str.ofString "*"), .int 2] (symS p sy2 []) k := by
  refine func_new (i := 5) (aInt_of times_e) times_a (by decide) times_n times_k times_l.2 (by rw [times_l.1]; decide) ?_
  rw [sy3_eq] at q
  have e3 : (MV.int (32 : Int)) = .int ((sy2.F.length : Nat) : Int) := by rw [times_l.1]; rfl
  rw [e3] at q
  exact q
end
end Mine
end

section
open PySem Mine
set_option Elab.async false
set_option maxRecDepth 100000
set_option linter.unusedVariables false
set_option maxHeartbeats 8000000

namespace Mine
local macro_rules | `(tactic| walk_at "go") => `(tactic| ((conv => whnf); (repeat (refine ⟨by first | decide | exact Nat.le_of_ble_eq_true rfl | decide +kernel | exact trivial, ?_⟩; (conv => whnf)))))

noncomputable def cI (z : Int) : MV := .tup [.int 5, .int z]
noncomputable def cR (a : Nat) : MV := .tup [.int 0, .int a]
noncomputable def cS (a : Nat) : MV := .tup [.int 2, .int a]
noncomputable def cF (f : Int) : MV := .tup [.int 6, .int f]

/-- what is read off the table of functors -/
structure SyOk (s : Sy) : Prop where
  f12 : s.F[12]? = some (.tup [.int 3, .int 1])
  f13 : s.F[13]? = some (.tup [.int 3, .int 2])
  f14 : s.F[14]? = some (.tup [.int 4, .int 2])
  f32 : s.F[32]? = some (.tup [.int 5, .int 2])
  t3 : s.T[3]? = some (.str (Str.ofString "-"))
  t4 : s.T[4]? = some (.str (Str.ofString "+"))
  t5 : s.T[5]? = some (.str (Str.ofString "*"))

section
variable {G : Orc} {p : MO} {h xl : List MV} {J : List MO} {k : MV → List MO → Prop} {s : Sy}

theorem push_ok {c : MV} (hl : h.length < 100000) (q : k (.int h.length) (Om s p (h ++ [c]) xl J)) : up G 244 [.own 7, c] (Om s p h xl J) k := by
  walk_at "go"
  have e : decide ((h.length : Int) ≥ 100000) = false := decide_eq_false (by omega)
  rw [e]
  walk_at "go"
  refine ⟨by omega, ?_⟩
  walk_at "go"
  exact q

theorem new_var_ok (hl : h.length < 100000) (q : k (cR h.length) (Om s p (h ++ [cR h.length]) xl J)) : up (up G) 251 [.own 7] (Om s p h xl J) k := by
  generalize hU : up G = U
  walk_at "go"
  subst hU
  refine push_ok hl ?_
  walk_at "go"
  exact q

theorem reserve2 (hl : h.length + 2 ≤ 100000) (q : ∀ c1 c2, k (.int h.length) (Om s p (h ++ [c1, c2]) xl J)) : up G 258 [.own 7, .int 2] (Om s p h xl J) k := by
  walk_at "go"
  have e : decide ((h.length : Int) + 2 > 100000) = false := decide_eq_false (by omega)
  rw [e]
  walk_at "go"
  refine ⟨by omega, ?_⟩
  walk_at "go"
  refine ⟨by rw [List.length_append]; simp; omega, ?_⟩
  walk_at "go"
  have := q (.tup [.int 0, .int (h.length + (0 + ((0 : Nat) : Int) * 1))]) (.tup [.int 0, .int (h.length + (0 + ((1 : Nat) : Int) * 1))])
  rw [show h ++ [MV.tup [.int 0, .int (h.length + (0 + ((0 : Nat) : Int) * 1))], MV.tup [.int 0, .int (h.length + (0 + ((1 : Nat) : Int) * 1))]] = (h ++ [MV.tup [.int 0, .int (h.length + (0 + ((0 : Nat) : Int) * 1))]]) ++ [MV.tup [.int 0, .int (h.length + (0 + ((1 : Nat) : Int) * 1))]] by simp] at this
  exact this

theorem reserve3 (hl : h.length + 3 ≤ 100000) (q : ∀ c1 c2 c3, k (.int h.length) (Om s p (h ++ [c1, c2, c3]) xl J)) : up G 258 [.own 7, .int 3] (Om s p h xl J) k := by
  walk_at "go"
  have e : decide ((h.length : Int) + 3 > 100000) = false := decide_eq_false (by omega)
  rw [e]
  walk_at "go"
  refine ⟨by omega, ?_⟩
  walk_at "go"
  refine ⟨by rw [List.length_append]; simp; omega, ?_⟩
  walk_at "go"
  refine ⟨by rw [List.length_append, List.length_append]; simp; omega, ?_⟩
  walk_at "go"
  have := q (.tup [.int 0, .int (h.length + (0 + ((0 : Nat) : Int) * 1))]) (.tup [.int 0, .int (h.length + (0 + ((1 : Nat) : Int) * 1))]) (.tup [.int 0, .int (h.length + (0 + ((2 : Nat) : Int) * 1))])
  rw [show h ++ [MV.tup [.int 0, .int (h.length + (0 + ((0 : Nat) : Int) * 1))], MV.tup [.int 0, .int (h.length + (0 + ((1 : Nat) : Int) * 1))], MV.tup [.int 0, .int (h.length + (0 + ((2 : Nat) : Int) * 1))]] = ((h ++ [MV.tup [.int 0, .int (h.length + (0 + ((0 : Nat) : Int) * 1))]]) ++ [MV.tup [.int 0, .int (h.length + (0 + ((1 : Nat) : Int) * 1))]]) ++ [MV.tup [.int 0, .int (h.length + (0 + ((2 : Nat) : Int) * 1))]] by simp] at this
  exact this

/-! ### dereferencing -/
theorem deref_I {z : Int} (q : k (cI z) (Om s p h xl J)) : up G 272 [.own 7, cI z] (Om s p h xl J) k := by
  walk_at "go"
  refine ⟨1, ?_⟩
  walk_at "go"
  exact q
theorem deref_S {a : Nat} (q : k (cS a) (Om s p h xl J)) : up G 272 [.own 7, cS a] (Om s p h xl J) k := by
  walk_at "go"
  refine ⟨1, ?_⟩
  walk_at "go"
  exact q
theorem deref_R {a : Nat} {z : Int} (ha : h[a]? = some (cI z)) (hl : a < 100000) (q : k (cI z) (Om s p h xl J)) : up G 272 [.own 7, cR a] (Om s p h xl J) k := by
  walk_at "go"
  refine ⟨2, ?_⟩
  walk_at "go"
  refine ⟨by omega, by omega, ?_⟩
  refine need_of (show h[((a : Nat) : Int).toNat]? = _ by rw [Int.toNat_natCast]; exact ha) ?_
  walk_at "go"
  exact q

theorem glob_I {z : Int} (q : k (cI z) (Om s p h xl J)) : up (up G) 300 [.own 7, cI z] (Om s p h xl J) k := by
  generalize hU : up G = U
  walk_at "go"
  subst hU
  refine deref_I ?_
  walk_at "go"
  exact q
theorem glob_S {a : Nat} (q : k (cS a) (Om s p h xl J)) : up (up G) 300 [.own 7, cS a] (Om s p h xl J) k := by
  generalize hU : up G = U
  walk_at "go"
  subst hU
  refine deref_S ?_
  walk_at "go"
  exact q
theorem glob_R {a : Nat} {z : Int} (ha : h[a]? = some (cI z)) (hl : a < 100000) (q : k (cI z) (Om s p h xl J)) : up (up G) 300 [.own 7, cR a] (Om s p h xl J) k := by
  generalize hU : up G = U
  walk_at "go"
  subst hU
  refine deref_R ha hl ?_
  walk_at "go"
  exact q

/-- a variable is bound -/
theorem bind_ok {a : Nat} {c : MV} (ha : a < h.length) (hl : h.length ≤ 100000) (q : k .none (Om s p (h.set a c) xl J)) : up G 286 [.own 7, cR a, c] (Om s p h xl J) k := by
  walk_at "go"
  refine ⟨by omega, by omega, by rw [Int.toNat_natCast]; exact ha, ?_⟩
  walk_at "go"
  exact q

theorem base_S {a : Nat} (q : k (.int (a + 1)) (Om s p h xl J)) : up G 349 [.own 7, cS a] (Om s p h xl J) k := by
  walk_at "go"
  exact q

theorem arg_S {a : Nat} {i : Int} {c : MV} (hi : 0 ≤ (a : Int) + 1 + i - 1) (hi2 : (a : Int) + 1 + i - 1 < 100000) (hc : h[((a : Int) + 1 + i - 1).toNat]? = some c) (q : k c (Om s p h xl J)) : up (up G) 356 [.own 7, cS a, .int i] (Om s p h xl J) k := by
  generalize hU : up G = U
  walk_at "go"
  subst hU
  refine base_S ?_
  walk_at "go"
  refine ⟨hi, by omega, ?_⟩
  refine need_of hc ?_
  walk_at "go"
  exact q

theorem functor_S {a : Nat} {f : Int} (hc : h[a]? = some (cF f)) (hl : a < 100000) (q : k (.int f) (Om s p h xl J)) : up G 335 [.own 7, cS a] (Om s p h xl J) k := by
  walk_at "go"
  refine ⟨by omega, by omega, ?_⟩
  refine need_of (show h[((a : Nat) : Int).toNat]? = _ by rw [Int.toNat_natCast]; exact hc) ?_
  walk_at "go"
  exact q

theorem arity_any {n : Nat} {a b : Int} {hn : n < 100000} (hc : s.F[n]? = some (.tup [.int a, .int b])) (q : k (.int b) (Om s p h xl J)) : up G 123 [.own 1, .int n] (Om s p h xl J) k := by
  walk_at "go"
  refine ⟨by omega, by omega, ?_⟩
  refine need_of (show s.F[((n : Nat) : Int).toNat]? = _ by rw [Int.toNat_natCast]; exact hc) ?_
  walk_at "go"
  exact q

theorem set_two {f c1 c2 : MV} : (h ++ [c1, c2]).set h.length f = h ++ [f, c2] := by
  rw [List.set_append_right _ _ (Nat.le_refl _), Nat.sub_self]; rfl
theorem set_three {f c1 c2 c3 : MV} : (h ++ [c1, c2, c3]).set h.length f = h ++ [f, c2, c3] := by
  rw [List.set_append_right _ _ (Nat.le_refl _), Nat.sub_self]; rfl

theorem block1 (S : SyOk s) (hl : h.length + 2 ≤ 100000) (q : ∀ c1, k (cS h.length) (Om s p (h ++ [cF 12, c1]) xl J)) : up (up G) 363 [.own 7, .int 12] (Om s p h xl J) k := by
  generalize hU : up G = U
  walk_at "go"
  subst hU
  refine arity_any (n := 12) (hn := by decide) S.f12 ?_
  generalize hU : up G = U
  walk_at "go"
  subst hU
  refine reserve2 hl fun c1 c2 => ?_
  walk_at "go"
  refine ⟨by omega, by omega, by rw [Int.toNat_natCast]; simp, ?_⟩
  walk_at "go"
  have := q c2
  rw [← set_two (c1 := c1)] at this
  exact this

theorem block2 {n : Nat} {a : Int} (hn : 0 < n ∧ n < 100) (hF : s.F[n]? = some (.tup [.int a, .int 2])) (hl : h.length + 3 ≤ 100000) (q : ∀ c1 c2, k (cS h.length) (Om s p (h ++ [cF n, c1, c2]) xl J)) : up (up G) 363 [.own 7, .int n] (Om s p h xl J) k := by
  have e : ((n : Int) == 0) = false := beq_eq_false_iff_ne.mpr (by omega)
  generalize hU : up G = U
  walk_at "go"
  rw [e]
  walk_at "go"
  subst hU
  refine arity_any (n := n) (hn := by omega) hF ?_
  generalize hU : up G = U
  walk_at "go"
  subst hU
  refine reserve3 hl fun c1 c2 c3 => ?_
  walk_at "go"
  refine ⟨by omega, by omega, by rw [Int.toNat_natCast]; simp, ?_⟩
  walk_at "go"
  have := q c2 c3
  rw [← set_three (c1 := c1)] at this
  exact this

end
end Mine
end

section
open PySem Mine
set_option Elab.async false
set_option maxRecDepth 100000
set_option linter.unusedVariables false
set_option maxHeartbeats 8000000

namespace Mine
local macro_rules | `(tactic| walk_at "go") => `(tactic| ((conv => whnf); (repeat (refine ⟨by first | decide | exact Nat.le_of_ble_eq_true rfl | decide +kernel | exact trivial, ?_⟩; (conv => whnf)))))

/-! ## a tree is put into the store -/
noncomputable def ch : Tr → List Tr
  | .u a => [a]
  | .b _ x y => [x, y]
  | _ => []
noncomputable def hd0 : Tr → Int
  | .u _ => 12
  | .b f _ _ => f
  | _ => 0
noncomputable def isSt : Tr → Bool
  | .u _ => true
  | .b _ _ _ => true
  | _ => false
/-- the cell of a tree, its block lying at L -/
noncomputable def cel (L : Nat) : Tr → MV
  | .v i => cR i
  | .i z => cI z
  | _ => cS L
noncomputable def pend (L : Nat) (t : Tr) : List (Nat × List Tr) := if isSt t then [(L + 1, ch t)] else []
/-- a block for t, what it holds behind the head does not matter yet -/
noncomputable def Blk (t : Tr) (B : List MV) : Prop := if isSt t then (∃ r, B = cF (hd0 t) :: r ∧ r.length = (ch t).length) else B = []

inductive Proc : List MV → Nat → List Tr → List MV → List (Nat × List Tr) → Prop
  | nil {h : List MV} {pl : Nat} : Proc h pl [] h []
  | cons {h : List MV} {pl : Nat} {t : Tr} {ts : List Tr} {B h' : List MV} {new : List (Nat × List Tr)} : Blk t B → Proc ((h ++ B).set pl (cel h.length t)) (pl + 1) ts h' new → Proc h pl (t :: ts) h' (pend h.length t ++ new)

noncomputable def tot : List Tr → Nat
  | [] => 0
  | t :: r => sz t + tot r
noncomputable def totP : List (Nat × List Tr) → Nat
  | [] => 0
  | x :: r => tot x.2 + totP r
theorem totP_app : ∀ (a b : List (Nat × List Tr)), totP (a ++ b) = totP a + totP b
  | [], b => by simp [totP]
  | x :: a, b => by show tot x.2 + totP (a ++ b) = tot x.2 + totP a + totP b; rw [totP_app a b]; omega

theorem sz_ch : ∀ t, sz t = 1 + tot (ch t)
  | .v _ => rfl
  | .i _ => rfl
  | .u a => by simp [sz, ch, tot]; omega
  | .b f x y => by simp [sz, ch, tot]; omega
theorem ch_len (t : Tr) : (ch t).length ≤ 2 := by cases t <;> simp [ch]

theorem blk_len {t : Tr} {B : List MV} (h : Blk t B) : B.length = (if isSt t then 1 + (ch t).length else 0) := by
  unfold Blk at h
  split
  · rename_i e; rw [if_pos e] at h; obtain ⟨r, rfl, hr⟩ := h; simp [hr]; omega
  · rename_i e; rw [if_neg e] at h; subst h; rfl

structure PrOk (h : List MV) (pl : Nat) (ts : List Tr) (h' : List MV) (new : List (Nat × List Tr)) : Prop where
  len : h.length ≤ h'.length
  same : ∀ j, j < h.length → (j < pl ∨ pl + ts.length ≤ j) → h'[j]? = h[j]?
  done : ∀ j t, ts[j]? = some t → ∃ L, h.length ≤ L ∧ h'[pl + j]? = some (cel L t) ∧ (isSt t = true → h'[L]? = some (cF (hd0 t)) ∧ (L + 1, ch t) ∈ new) ∧ ∀ q ∈ new, L < q.1 ∨ q.1 + q.2.length ≤ L
  above : ∀ q ∈ new, h.length < q.1 ∧ q.1 + q.2.length ≤ h'.length
  sorted : new.Pairwise fun a b => a.1 + a.2.length ≤ b.1
  size : h'.length + 3 * totP new ≤ h.length + 3 * tot ts
  few : totP new + ts.length ≤ tot ts
  few2 : totP new + new.length ≤ tot ts
  sub : ∀ q ∈ new, ∃ t ∈ ts, q.2 = ch t ∧ isSt t = true

theorem proc_ok {h : List MV} {pl : Nat} {ts : List Tr} {h' : List MV} {new : List (Nat × List Tr)} (P : Proc h pl ts h' new) : pl + ts.length ≤ h.length → PrOk h pl ts h' new := by
  induction P with
  | nil => intro _; exact ⟨Nat.le_refl _, fun _ _ _ => rfl, fun j t e => by simp at e, fun q hq => (nomatch hq), .nil, by simp [totP, tot], by simp [totP, tot], by simp [totP, tot], fun q hq => (nomatch hq)⟩
  | cons hB P ih =>
    rename_i h pl t ts B h' new
    intro hle
    simp only [List.length_cons] at hle
    have hBl := blk_len hB
    have hlen : ((h ++ B).set pl (cel h.length t)).length = h.length + B.length := by simp
    have R := ih (by rw [hlen]; omega)
    have get2 : ∀ j, j < h.length → j ≠ pl → ((h ++ B).set pl (cel h.length t))[j]? = h[j]? := fun j hj hne => by
      rw [List.getElem?_set_ne (Ne.symm hne), List.getElem?_append_left hj]
    have own : ∀ q ∈ pend h.length t, q = (h.length + 1, ch t) ∧ isSt t = true := fun q hq => by
      unfold pend at hq
      split at hq
      · rename_i e; exact ⟨List.mem_singleton.mp hq, e⟩
      · cases hq
    have hst : isSt t = true → B.length = 1 + (ch t).length := fun e => by rw [hBl, if_pos e]
    refine ⟨by have := R.len; rw [hlen] at this; omega, fun j hj hout => ?_, fun j u e => ?_, fun q hq => ?_, ?_, ?_, ?_, ?_, fun q hq => ?_⟩
    · simp only [List.length_cons] at hout
      rw [R.same j (by rw [hlen]; omega) (by omega), get2 j hj (by omega)]
    · cases j with
      | zero =>
        simp at e
        subst e
        refine ⟨h.length, Nat.le_refl _, ?_, fun hs => ⟨?_, ?_⟩, fun q hq => ?_⟩
        · rw [Nat.add_zero, R.same pl (by rw [hlen]; omega) (by omega), List.getElem?_set_self (by simp; omega)]
        · rw [R.same h.length (by rw [hlen]; have := hst hs; omega) (by omega), List.getElem?_set_ne (by omega)]
          unfold Blk at hB
          rw [if_pos hs] at hB
          obtain ⟨r, rfl, hr⟩ := hB
          rw [List.getElem?_append_right (Nat.le_refl _), Nat.sub_self]; rfl
        · refine List.mem_append_left _ ?_
          unfold pend; rw [if_pos hs]; exact List.mem_singleton.mpr rfl
        · rcases List.mem_append.mp hq with hq | hq
          · obtain ⟨rfl, _⟩ := own q hq
            exact .inl (Nat.lt_succ_self _)
          · have := (R.above q hq).1
            rw [hlen] at this
            exact .inl (by omega)
      | succ j =>
        simp at e
        obtain ⟨L, h1, h2, h3, h4⟩ := R.done j u e
        rw [hlen] at h1
        refine ⟨L, by omega, by rw [show pl + (j + 1) = pl + 1 + j by omega]; exact h2, fun hs => ⟨(h3 hs).1, List.mem_append_right _ (h3 hs).2⟩, fun q hq => ?_⟩
        rcases List.mem_append.mp hq with hq | hq
        · obtain ⟨rfl, hs⟩ := own q hq
          refine .inr ?_
          have := hst hs
          show h.length + 1 + (ch t).length ≤ L
          omega
        · exact h4 q hq
    · rcases List.mem_append.mp hq with hq | hq
      · obtain ⟨rfl, hs⟩ := own q hq
        have := hst hs
        have := R.len
        rw [hlen] at this
        refine ⟨Nat.lt_succ_self _, ?_⟩
        show h.length + 1 + (ch t).length ≤ h'.length
        omega
      · have := R.above q hq
        rw [hlen] at this
        exact ⟨by omega, this.2⟩
    · rw [List.pairwise_append]
      refine ⟨?_, R.sorted, fun a ha b hb => ?_⟩
      · unfold pend
        split
        · exact List.pairwise_singleton ..
        · exact .nil
      · obtain ⟨rfl, hs⟩ := own a ha
        have := (R.above b hb).1
        rw [hlen] at this
        have := hst hs
        show h.length + 1 + (ch t).length ≤ b.1
        omega
    · have := R.size
      rw [hlen] at this
      rw [totP_app]
      have e1 := sz_ch t
      have e2 := ch_len t
      unfold tot
      unfold pend
      split
      · rename_i e; have := hst e; simp only [totP]; omega
      · rename_i e
        have : B.length = 0 := by rw [hBl, if_neg e]
        simp only [totP]; omega
    · have := R.few
      rw [totP_app]
      have e1 := sz_ch t
      unfold tot
      simp only [List.length_cons]
      unfold pend
      split
      · simp only [totP]; omega
      · simp only [totP]; omega
    · have := R.few2
      rw [totP_app, List.length_append]
      have e1 := sz_ch t
      unfold tot
      unfold pend
      split
      · simp only [totP, List.length_cons, List.length_nil]; omega
      · simp only [totP, List.length_nil]; omega
    · rcases List.mem_append.mp hq with hq | hq
      · obtain ⟨rfl, hs⟩ := own q hq
        exact ⟨t, .head _, rfl, hs⟩
      · obtain ⟨u, hu, e⟩ := R.sub q hq
        exact ⟨u, .tail _ hu, e⟩

/-- a tree is read off a cell -/
noncomputable def Rd (h : List MV) : Tr → MV → Prop
  | .v i, c => c = cR i
  | .i z, c => c = cI z
  | .u a, c => ∃ s ca, c = cS s ∧ s + 1 < h.length ∧ h[s]? = some (cF 12) ∧ h[s + 1]? = some ca ∧ (∀ s', ca = cS s' → s < s') ∧ Rd h a ca
  | .b f x y, c => ∃ s cx cy, c = cS s ∧ s + 2 < h.length ∧ h[s]? = some (cF f) ∧ h[s + 1]? = some cx ∧ h[s + 2]? = some cy ∧ (∀ s', cx = cS s' → s < s') ∧ (∀ s', cy = cS s' → s < s') ∧ Rd h x cx ∧ Rd h y cy

noncomputable def Fill (h : List MV) (pl : Nat) (ts : List Tr) : Prop := ∀ j t, ts[j]? = some t → ∃ c, h[pl + j]? = some c ∧ Rd h t c ∧ ∀ s', c = cS s' → pl ≤ s'

theorem cS_inj {a b : Nat} (h : cS a = cS b) : a = b := by
  unfold cS at h; simp at h; omega

theorem rd_of {h : List MV} {L : Nat} {t : Tr} (hs : isSt t = true → h[L]? = some (cF (hd0 t)) ∧ Fill h (L + 1) (ch t)) : Rd h t (cel L t) := by
  cases t with
  | v i => rfl
  | i z => rfl
  | u a =>
    obtain ⟨h1, h2⟩ := hs rfl
    obtain ⟨c, hc, hr, hp⟩ := h2 0 a rfl
    exact ⟨L, c, rfl, (List.getElem?_eq_some_iff.mp hc).1, h1, hc, fun s' e => hp s' e, hr⟩
  | b f x y =>
    obtain ⟨h1, h2⟩ := hs rfl
    obtain ⟨c, hc, hr, hp⟩ := h2 0 x rfl
    obtain ⟨c', hc', hr', hp'⟩ := h2 1 y rfl
    exact ⟨L, c, c', rfl, (List.getElem?_eq_some_iff.mp hc').1, h1, hc, hc', fun s' e => hp s' e, fun s' e => hp' s' e, hr, hr'⟩

/-- what is still to be filled lies in the store, in order -/
structure PW (h : List MV) (w : List (Nat × List Tr)) : Prop where
  in_ : ∀ q ∈ w, 1 ≤ q.1 ∧ q.1 + q.2.length ≤ h.length
  sorted : w.Pairwise fun a b => a.1 + a.2.length ≤ b.1
  ne : ∀ q ∈ w, q.2 ≠ []
  wf : ∀ q ∈ w, ∀ t ∈ q.2, Wf t

theorem ch_ne {t : Tr} (h : isSt t = true) : ch t ≠ [] := by
  cases t with
  | v i => cases h
  | i z => cases h
  | u a => simp [ch]
  | b f x y => simp [ch]
theorem ch_wf {t : Tr} (h : Wf t) : ∀ u ∈ ch t, Wf u := by
  cases t with
  | v i => intro u hu; cases hu
  | i z => intro u hu; cases hu
  | u a => intro u hu; rw [List.mem_singleton.mp hu]; exact h
  | b f x y =>
    intro u hu
    rcases List.mem_cons.mp hu with rfl | hu
    · exact h.2.1
    · rw [List.mem_singleton.mp hu]; exact h.2.2

theorem pw_step {h h' : List MV} {pl : Nat} {ts : List Tr} {w new : List (Nat × List Tr)} (W : PW h ((pl, ts) :: w)) (P : PrOk h pl ts h' new) : PW h' (w ++ new) := by
  obtain ⟨a, b⟩ := List.pairwise_cons.mp W.sorted
  refine ⟨fun q hq => ?_, ?_, fun q hq => ?_, fun q hq => ?_⟩
  · rcases List.mem_append.mp hq with hq | hq
    · have := W.in_ q (.tail _ hq); have := P.len; omega
    · have := P.above q hq; omega
  · rw [List.pairwise_append]
    refine ⟨b, P.sorted, fun x hx y hy => ?_⟩
    have := W.in_ x (.tail _ hx)
    have := P.above y hy
    omega
  · rcases List.mem_append.mp hq with hq | hq
    · exact W.ne q (.tail _ hq)
    · obtain ⟨t, _, e, hs⟩ := P.sub q hq
      rw [e]; exact ch_ne hs
  · rcases List.mem_append.mp hq with hq | hq
    · exact W.wf q (.tail _ hq)
    · obtain ⟨t, ht, e, hs⟩ := P.sub q hq
      rw [e]; exact ch_wf (W.wf _ (.head _) t ht)

/-- nothing pending at j -/
noncomputable def Free (w : List (Nat × List Tr)) (j : Nat) : Prop := ∀ q ∈ w, j < q.1 ∨ q.1 + q.2.length ≤ j

/-- the head of what is pending is done, the rest follows -/
theorem fill_step {h h1 h' : List MV} {pl : Nat} {ts : List Tr} {w new : List (Nat × List Tr)} (W : PW h ((pl, ts) :: w)) (P : PrOk h pl ts h1 new)
    (hl : h1.length ≤ h'.length) (hs : ∀ j, j < h1.length → Free (w ++ new) j → h'[j]? = h1[j]?) (hf : ∀ q ∈ w ++ new, Fill h' q.1 q.2) :
    (∀ j, j < h.length → Free ((pl, ts) :: w) j → h'[j]? = h[j]?) ∧ ∀ q ∈ (pl, ts) :: w, Fill h' q.1 q.2 := by
  have hin := W.in_ (pl, ts) (.head _)
  obtain ⟨hord, _⟩ := List.pairwise_cons.mp W.sorted
  dsimp only at hin
  refine ⟨fun j hj hfree => ?_, fun q hq => ?_⟩
  · have f0 := hfree (pl, ts) (.head _)
    dsimp only at f0
    rw [hs j (by have := P.len; omega) fun q hq => ?_, P.same j hj f0]
    rcases List.mem_append.mp hq with hq | hq
    · exact hfree q (.tail _ hq)
    · have := P.above q hq; exact .inl (by omega)
  · rcases List.mem_cons.mp hq with rfl | hq
    · intro j t e
      have hj : j < ts.length := (List.getElem?_eq_some_iff.mp e).1
      obtain ⟨L, h1', h2', h3', h4'⟩ := P.done j t e
      refine ⟨cel L t, ?_, rd_of fun hst => ⟨?_, hf _ (List.mem_append_right _ (h3' hst).2)⟩, fun s' e' => ?_⟩
      · rw [hs (pl + j) (by have := P.len; omega) fun q hq => ?_]
        · exact h2'
        · rcases List.mem_append.mp hq with hq | hq
          · have := hord q hq; exact .inl (by dsimp only at this; omega)
          · have := P.above q hq; exact .inl (by omega)
      · have hL := (List.getElem?_eq_some_iff.mp (h3' hst).1).1
        rw [hs L hL fun q hq => ?_]
        · exact (h3' hst).1
        · rcases List.mem_append.mp hq with hq | hq
          · have := W.in_ q (.tail _ hq); exact .inr (by omega)
          · exact h4' q hq
      · have : L = s' := by
          cases t with
          | v i => unfold cel cR cS at e'; simp at e'
          | i z => unfold cel cI cS at e'; simp at e'
          | u a => exact cS_inj e'
          | b f x y => exact cS_inj e'
        show pl ≤ s'
        omega
    · exact hf q (List.mem_append_left _ hq)
end Mine
end

section
open PySem Mine
set_option Elab.async false
set_option maxRecDepth 100000
set_option linter.unusedVariables false
set_option maxHeartbeats 8000000

namespace Mine
local macro_rules | `(tactic| walk_at "go") => `(tactic| ((conv => whnf); (repeat (refine ⟨by first | decide | exact Nat.le_of_ble_eq_true rfl | decide +kernel | exact trivial | exact rfl, ?_⟩; (conv => whnf)))))

noncomputable def condP : MT := (.val (.cmp .lt (.loc 7) (.prim .len (.cons (.loc 6) .nil))))
noncomputable def bodyI : MSs := (.cons (.asg 4 (.sub (.loc 10) (.lit (.int (0))))) (.cons (.iff (.val (.cmp .eq (.loc 4) (.lit (.str (Str.ofString "v"))))) (.cons (.iff (.val (.cmp .isin (.sub (.loc 10) (.lit (.int (1)))) (.loc 2))) (.cons (.asgS (.attr (.loc 0) 10) (.loc 8) (.sub (.loc 2) (.sub (.loc 10) (.lit (.int (1)))))) .nil) (.cons (.asgS (.loc 2) (.sub (.loc 10) (.lit (.int (1)))) (.tup (.cons (.lit (.int (0))) (.cons (.loc 8) .nil)))) .nil)) .nil) (.cons (.iff (.val (.cmp .eq (.loc 4) (.lit (.str (Str.ofString "a"))))) (.cons (.asgS (.attr (.loc 0) 10) (.loc 8) (.tup (.cons (.lit (.int (4))) (.cons (.sub (.loc 10) (.lit (.int (1)))) .nil)))) .nil) (.cons (.iff (.val (.cmp .eq (.loc 4) (.lit (.str (Str.ofString "i"))))) (.cons (.asgS (.attr (.loc 0) 10) (.loc 8) (.tup (.cons (.lit (.int (5))) (.cons (.sub (.loc 10) (.lit (.int (1)))) .nil)))) .nil) (.cons (.asg 11 (.callm (.loc 0) 46 (.cons (.sub (.loc 10) (.lit (.int (1)))) .nil))) (.cons (.asgS (.attr (.loc 0) 10) (.loc 8) (.loc 11)) (.cons (.expr (.callm (.loc 6) 0 (.cons (.tup (.cons (.callm (.loc 0) 44 (.cons (.loc 11) .nil)) (.cons (.sub (.loc 10) (.lit (.int (2)))) .nil))) .nil))) .nil)))) .nil)) .nil)) (.cons (.augL 8 (.lit (.int (1)))) .nil)))
noncomputable def bodyP : MSs := (.cons (.asgT 8 9 (.sub (.loc 6) (.loc 7))) (.cons (.augL 7 (.lit (.int (1)))) (.cons (.forr 10 (.loc 9) (.cons (.asg 4 (.sub (.loc 10) (.lit (.int (0))))) (.cons (.iff (.val (.cmp .eq (.loc 4) (.lit (.str (Str.ofString "v"))))) (.cons (.iff (.val (.cmp .isin (.sub (.loc 10) (.lit (.int (1)))) (.loc 2))) (.cons (.asgS (.attr (.loc 0) 10) (.loc 8) (.sub (.loc 2) (.sub (.loc 10) (.lit (.int (1)))))) .nil) (.cons (.asgS (.loc 2) (.sub (.loc 10) (.lit (.int (1)))) (.tup (.cons (.lit (.int (0))) (.cons (.loc 8) .nil)))) .nil)) .nil) (.cons (.iff (.val (.cmp .eq (.loc 4) (.lit (.str (Str.ofString "a"))))) (.cons (.asgS (.attr (.loc 0) 10) (.loc 8) (.tup (.cons (.lit (.int (4))) (.cons (.sub (.loc 10) (.lit (.int (1)))) .nil)))) .nil) (.cons (.iff (.val (.cmp .eq (.loc 4) (.lit (.str (Str.ofString "i"))))) (.cons (.asgS (.attr (.loc 0) 10) (.loc 8) (.tup (.cons (.lit (.int (5))) (.cons (.sub (.loc 10) (.lit (.int (1)))) .nil)))) .nil) (.cons (.asg 11 (.callm (.loc 0) 46 (.cons (.sub (.loc 10) (.lit (.int (1)))) .nil))) (.cons (.asgS (.attr (.loc 0) 10) (.loc 8) (.loc 11)) (.cons (.expr (.callm (.loc 6) 0 (.cons (.tup (.cons (.callm (.loc 0) 44 (.cons (.loc 11) .nil)) (.cons (.sub (.loc 10) (.lit (.int (2)))) .nil))) .nil))) .nil)))) .nil)) .nil)) (.cons (.augL 8 (.lit (.int (1)))) .nil)))) .nil)))

noncomputable def tb3 : List (Key × MV) := [(.ki 0, cR 0), (.ki 1, cR 1), (.ki 2, cR 2)]
noncomputable abbrev OmW (s : Sy) (p : MO) (h xl : List MV) (J : List MO) (W : List MV) : List MO := Om s p h xl (.dict tb3 :: (J ++ [.list W]))
noncomputable def encP (q : Nat × List Tr) : MV := .tup [.int q.1, .tup (q.2.map enc)]

section
variable {G : Orc} {p : MO} {h xl W W' : List MV} {J : List MO} {s : Sy} {N : Nat}

theorem getN (hN : N = 12 + J.length) : (OmW s p h xl J W)[N]? = some (.list W) := by
  subst hN
  show (p :: .inst 154 symF :: .list s.T :: .dict s.A :: .list s.F :: .dict s.N :: .inst 746 areF :: .inst 423 stoF :: .list h :: .list xl :: .dict [] :: .dict tb3 :: (J ++ [MO.list W]))[12 + J.length]? = _
  rw [Nat.add_comm]
  show (J ++ [MO.list W])[J.length]? = _
  simp
theorem setN (hN : N = 12 + J.length) : (OmW s p h xl J W).set N (.list W') = OmW s p h xl J W' := by
  subst hN
  show (p :: .inst 154 symF :: .list s.T :: .dict s.A :: .list s.F :: .dict s.N :: .inst 746 areF :: .inst 423 stoF :: .list h :: .list xl :: .dict [] :: .dict tb3 :: (J ++ [MO.list W])).set (12 + J.length) (.list W') = _
  rw [Nat.add_comm]
  show p :: .inst 154 symF :: .list s.T :: .dict s.A :: .list s.F :: .dict s.N :: .inst 746 areF :: .inst 423 stoF :: .list h :: .list xl :: .dict [] :: .dict tb3 :: ((J ++ [MO.list W]).set J.length (.list W')) = _
  rw [List.set_append_right _ _ (Nat.le_refl _), Nat.sub_self]; rfl

theorem item_ok {t : Tr} {T k3 k4 mk at' its k11 : Option MV} {pl : Nat} {K : Fl → S → Prop} (S : SyOk s) (w : Wf t) (hN : N = 12 + J.length) (hpl : pl < h.length) (hroom : h.length + 3 ≤ 100000) (hW : W.length < 100000)
    (q : ∀ B kd inn, Blk t B → K .next ⟨[some (.own 7), T, some (.own 11), k3, some kd, mk, some (.own N), at', some (.int (pl + 1)), its, some (enc t), inn], OmW s p ((h ++ B).set pl (cel h.length t)) xl J (W ++ (pend h.length t).map encP)⟩) :
    evSs (up (up G)) tab bodyI ⟨[some (.own 7), T, some (.own 11), k3, k4, mk, some (.own N), at', some (.int pl), its, some (enc t), k11], OmW s p h xl J W⟩ K := by
  cases t with
  | v i =>
    have w : i < 3 := w
    have hq := q [] (.str sV) k11 rfl
    rw [List.append_nil, show (pend h.length (Tr.v i)).map encP = [] from rfl, List.append_nil] at hq
    rcases (by omega : i = 0 ∨ i = 1 ∨ i = 2) with rfl | rfl | rfl
    · walk_at "go"
      refine ⟨by omega, by omega, by rw [Int.toNat_natCast]; exact hpl, ?_⟩
      walk_at "go"
      exact hq
    · walk_at "go"
      refine ⟨by omega, by omega, by rw [Int.toNat_natCast]; exact hpl, ?_⟩
      walk_at "go"
      exact hq
    · walk_at "go"
      refine ⟨by omega, by omega, by rw [Int.toNat_natCast]; exact hpl, ?_⟩
      walk_at "go"
      exact hq
  | i z =>
    have hq := q [] (.str sI) k11 rfl
    rw [List.append_nil, show (pend h.length (Tr.i z)).map encP = [] from rfl, List.append_nil] at hq
    walk_at "go"
    refine ⟨by omega, by omega, by rw [Int.toNat_natCast]; exact hpl, ?_⟩
    walk_at "go"
    exact hq
  | u a =>
    generalize hU : up (up G) = U
    walk_at "go"
    subst hU
    refine block1 S (by omega) fun c1 => ?_
    generalize hU : up (up G) = U
    walk_at "go"
    refine ⟨by omega, by omega, by rw [Int.toNat_natCast]; simp; omega, ?_⟩
    walk_at "go"
    refine need_of (getN hN) ?_
    walk_at "go"
    subst hU
    refine base_S ?_
    walk_at "go"
    refine need_of (getN hN) ?_
    walk_at "go"
    refine ⟨by omega, ?_⟩
    walk_at "go"
    have hq := q [cF 12, c1] (.str sS) (some (cS h.length)) ⟨[c1], rfl, rfl⟩
    rw [← setN hN] at hq
    exact hq
  | b f x y =>
    obtain ⟨hf, wx, wy⟩ := w
    have fin : ∀ n : Nat, f = n → (0 < n ∧ n < 100) → (∃ a, s.F[n]? = some (.tup [.int a, .int 2])) → evSs (up (up G)) tab bodyI ⟨[some (.own 7), T, some (.own 11), k3, k4, mk, some (.own N), at', some (.int pl), its, some (enc (.b f x y)), k11], OmW s p h xl J W⟩ K := fun n e h1 h2 => by
      subst e
      obtain ⟨a, ha⟩ := h2
      generalize hU : up (up G) = U
      walk_at "go"
      subst hU
      refine block2 h1 ha (by omega) fun c1 c2 => ?_
      generalize hU : up (up G) = U
      walk_at "go"
      refine ⟨by omega, by omega, by rw [Int.toNat_natCast]; simp; omega, ?_⟩
      walk_at "go"
      refine need_of (getN hN) ?_
      walk_at "go"
      subst hU
      refine base_S ?_
      walk_at "go"
      refine need_of (getN hN) ?_
      walk_at "go"
      refine ⟨by omega, ?_⟩
      walk_at "go"
      have hq := q [cF n, c1, c2] (.str sS) (some (cS h.length)) ⟨[c1, c2], rfl, rfl⟩
      rw [← setN hN] at hq
      exact hq
    rcases hf with rfl | rfl | rfl
    · exact fin 14 rfl (by decide) ⟨_, S.f14⟩
    · exact fin 13 rfl (by decide) ⟨_, S.f13⟩
    · exact fin 32 rfl (by decide) ⟨_, S.f32⟩

end
end Mine
end

section
open PySem Mine
set_option Elab.async false
set_option maxRecDepth 100000
set_option linter.unusedVariables false
set_option maxHeartbeats 8000000

namespace Mine
local macro_rules | `(tactic| walk_at "go") => `(tactic| ((conv => whnf); (repeat (refine ⟨by first | decide | exact Nat.le_of_ble_eq_true rfl | decide +kernel | exact trivial | exact rfl, ?_⟩; (conv => whnf)))))

section
variable {G : Orc} {p : MO} {xl : List MV} {J : List MO} {s : Sy} {N : Nat} {T k3 mk at' its : Option MV} {K : Fl → S → Prop}

theorem sz_pos : ∀ t, 1 ≤ sz t := fun t => by rw [sz_ch]; omega

theorem items_ok (S : SyOk s) (hN : N = 12 + J.length) : ∀ (ts : List Tr) (pl : Nat) (h W : List MV) (k4 k10 k11 : Option MV), (∀ t ∈ ts, Wf t) → pl + ts.length ≤ h.length → h.length + 3 * tot ts ≤ 100000 → W.length + ts.length ≤ 50000 →
    (∀ h' new kd it inn, Proc h pl ts h' new → K .next ⟨[some (.own 7), T, some (.own 11), k3, kd, mk, some (.own N), at', some (.int ((pl + ts.length : Nat) : Int)), its, it, inn], OmW s p h' xl J (W ++ new.map encP)⟩) →
    forG 10 (fun _ => True) (evSs (up (up G)) tab bodyI) (ts.map enc) ⟨[some (.own 7), T, some (.own 11), k3, k4, mk, some (.own N), at', some (.int pl), its, k10, k11], OmW s p h xl J W⟩ K
  | [], pl, h, W, k4, k10, k11, _, _, _, _, q => by
    have := q h [] k4 k10 k11 .nil
    simp only [List.map_nil, List.append_nil, List.length_nil, Nat.add_zero] at this
    exact ⟨trivial, this⟩
  | t :: ts, pl, h, W, k4, k10, k11, hw, hpl, hroom, hW, q => by
    refine ⟨trivial, ?_⟩
    simp only [List.length_cons] at hpl hW
    have ht := sz_pos t
    have htot : tot (t :: ts) = sz t + tot ts := rfl
    refine item_ok S (hw t (.head _)) hN (by omega) (by omega) (by omega) fun B kd inn hB => ?_
    have hBl := blk_len hB
    have e1 := sz_ch t
    have e2 := ch_len t
    have hlen : ((h ++ B).set pl (cel h.length t)).length = h.length + B.length := by simp
    have hpn : (pend h.length t).length ≤ 1 := by unfold pend; split <;> simp
    have hB3 : B.length ≤ 3 * sz t := by rw [hBl]; split <;> omega
    refine items_ok S hN ts (pl + 1) _ (W ++ (pend h.length t).map encP) (some kd) (some (enc t)) inn (fun u hu => hw u (.tail _ hu)) (by rw [hlen]; omega) (by rw [hlen]; omega) (by simp; omega) fun h' new kd' it' inn' P => ?_
    have := q h' (pend h.length t ++ new) kd' it' inn' (.cons hB P)
    rw [List.map_append, ← List.append_assoc] at this
    rw [show pl + 1 + ts.length = pl + (t :: ts).length by simp; omega]
    exact this

theorem tot_pos : ∀ {ts : List Tr}, ts ≠ [] → 1 ≤ tot ts
  | [], h => (h rfl).elim
  | t :: ts, _ => by have := sz_pos t; show 1 ≤ sz t + tot ts; omega

theorem while_ok (S : SyOk s) (hN : N = 12 + J.length) : ∀ (n : Nat) (w : List (Nat × List Tr)) (don h : List MV) (k4 k8 k9 k10 k11 : Option MV), totP w < n → PW h w → h.length + 3 * totP w ≤ 100000 → don.length + w.length + totP w ≤ 40000 →
    (∀ h' W' a4 a7 a8 a9 a10 a11, h.length ≤ h'.length → h'.length ≤ h.length + 3 * totP w → (∀ j, j < h.length → Free w j → h'[j]? = h[j]?) → (∀ q ∈ w, Fill h' q.1 q.2) →
      K .next ⟨[some (.own 7), T, some (.own 11), k3, a4, mk, some (.own N), a7, a8, a9, a10, a11], OmW s p h' xl J W'⟩) →
    whileN (evT (up (up G)) tab condP) (evSs (up (up G)) tab bodyP) n ⟨[some (.own 7), T, some (.own 11), k3, k4, mk, some (.own N), some (.int don.length), k8, k9, k10, k11], OmW s p h xl J (don ++ w.map encP)⟩ K := by
  intro n
  induction n with
  | zero => intro w don h k4 k8 k9 k10 k11 hm; exact absurd hm (Nat.not_lt_zero _)
  | succ n ih =>
    intro w don h k4 k8 k9 k10 k11 hm hP hroom hW q
    cases w with
    | nil =>
      walk_at "go"
      refine need_of (getN hN) ?_
      walk_at "go"
      have e : decide ((don.length : Int) < ((don ++ ([] : List (Nat × List Tr)).map encP).length : Int)) = false := decide_eq_false (by simp)
      rw [e]
      walk_at "go"
      exact q h _ _ _ _ _ _ _ (Nat.le_refl _) (Nat.le_add_right _ _) (fun _ _ _ => rfl) (fun _ h => nomatch h)
    | cons x w =>
      obtain ⟨pl, ts⟩ := x
      have hin := hP.in_ (pl, ts) (.head _)
      have htp : totP ((pl, ts) :: w) = tot ts + totP w := rfl
      have hne := tot_pos (hP.ne (pl, ts) (.head _))
      have hts : ts.length ≤ tot ts := by
        clear hin hne htp hP hW hm q hroom
        induction ts with
        | nil => exact Nat.le_refl _
        | cons t ts ih2 => have := sz_pos t; show ts.length + 1 ≤ sz t + tot ts; omega
      dsimp only at hin
      rw [htp] at hm hroom hW
      simp only [List.length_cons] at hW
      generalize hU : up (up G) = U
      walk_at "go"
      refine need_of (getN hN) ?_
      walk_at "go"
      have e : decide ((don.length : Int) < ((don ++ (((pl, ts) :: w) : List (Nat × List Tr)).map encP).length : Int)) = true := decide_eq_true (by simp; omega)
      rw [e]
      walk_at "go"
      refine need_of (getN hN) ?_
      walk_at "go"
      refine ⟨by omega, by omega, ?_⟩
      refine need_of (a := encP (pl, ts)) (by rw [Int.toNat_natCast]; simp) ?_
      walk_at "go"
      subst hU
      refine items_ok S hN ts pl h _ _ _ _ (hP.wf _ (.head _)) hin.2 (by omega) (by simp; omega) fun h1 new kd it inn P => ?_
      have R := proc_ok P hin.2
      have hnl : new.length ≤ totP new := by
        have hsub := R.sub
        clear P R q
        induction new with
        | nil => exact Nat.le_refl _
        | cons y ys ih2 =>
          have := ih2 fun q hq => hsub q (.tail _ hq)
          obtain ⟨t, _, e, hs⟩ := hsub y (.head _)
          have := tot_pos (ts := y.2) (e ▸ ch_ne hs)
          show ys.length + 1 ≤ tot y.2 + totP ys; omega
      have few := R.few
      have few2 := R.few2
      have size := R.size
      have h4 : totP (w ++ new) < n := by rw [totP_app]; have := hP.ne (pl, ts) (.head _); have : 1 ≤ ts.length := List.length_pos_iff.mpr this; omega
      have h5 : (don ++ (((pl, ts) :: w) : List (Nat × List Tr)).map encP) ++ new.map encP = (don ++ [encP (pl, ts)]) ++ (w ++ new).map encP := by simp
      rw [h5]
      have := ih (w ++ new) (don ++ [encP (pl, ts)]) h1 kd (some (.int ((pl + ts.length : Nat) : Int))) (some (.tup (ts.map enc))) it inn h4 (pw_step hP R) (by rw [totP_app]; omega) (by rw [totP_app]; simp; omega) fun h' W' a4 a7 a8 a9 a10 a11 l1 l2 hs hf => ?_
      · rw [List.length_append] at this
        exact this
      · rw [totP_app] at l2
        obtain ⟨r1, r2⟩ := fill_step hP R l1 hs hf
        exact q h' W' a4 a7 a8 a9 a10 a11 (Nat.le_trans R.len l1) (by rw [htp]; omega) r1 r2

end
end Mine
end

section
open PySem Mine
set_option Elab.async false
set_option maxRecDepth 100000
set_option linter.unusedVariables false
set_option maxHeartbeats 8000000

namespace Mine
local macro_rules | `(tactic| walk_at "go") => `(tactic| ((conv => whnf); (repeat (refine ⟨by first | decide | exact Nat.le_of_ble_eq_true rfl | decide +kernel | exact trivial | exact rfl, ?_⟩; (conv => whnf)))))

section
variable {G : Orc} {p : MO} {h xl : List MV} {J : List MO} {s : Sy} {k : MV → List MO → Prop}

/-- what stands in the store after a tree has been put there -/
structure Put (h : List MV) (t : Tr) (h' : List MV) (c : MV) : Prop where
  same : ∀ j, j < h.length → h'[j]? = h[j]?
  le : h.length ≤ h'.length
  size : h'.length ≤ h.length + 3 * sz t
  rd : Rd h' t c

theorem put_struct {t : Tr} {B h' : List MV} (hs : isSt t = true) (hB : Blk t B) (hl : (h ++ B).length ≤ h'.length) (h2 : h'.length ≤ (h ++ B).length + 3 * tot (ch t))
    (h3 : ∀ j, j < (h ++ B).length → Free [(h.length + 1, ch t)] j → h'[j]? = (h ++ B)[j]?) (h4 : ∀ q ∈ [(h.length + 1, ch t)], Fill h' q.1 q.2) : Put h t h' (cS h.length) := by
  have hBl := blk_len hB
  rw [if_pos hs] at hBl
  have e1 := sz_ch t
  have e2 := ch_len t
  rw [List.length_append] at hl h2
  refine ⟨fun j hj => ?_, by omega, by omega, ?_⟩
  · rw [h3 j (by rw [List.length_append]; omega) fun q hq => by rw [List.mem_singleton.mp hq]; exact .inl (by show j < h.length + 1; omega), List.getElem?_append_left hj]
  · have : Rd h' t (cel h.length t) := rd_of fun _ => ⟨?_, h4 _ (.head _)⟩
    · cases t with
      | v i => cases hs
      | i z => cases hs
      | u a => exact this
      | b f x y => exact this
    · rw [h3 h.length (by rw [List.length_append]; omega) fun q hq => by rw [List.mem_singleton.mp hq]; exact .inl (Nat.lt_succ_self _), List.getElem?_append_right (Nat.le_refl _), Nat.sub_self]
      unfold Blk at hB
      rw [if_pos hs] at hB
      obtain ⟨r, rfl, hr⟩ := hB
      rfl

theorem pw_one {t : Tr} {B : List MV} (w : Wf t) (hs : isSt t = true) (hB : Blk t B) : PW (h ++ B) [(h.length + 1, ch t)] := by
  have hBl := blk_len hB
  rw [if_pos hs] at hBl
  refine ⟨fun q hq => ?_, List.pairwise_singleton .., fun q hq => ?_, fun q hq => ?_⟩
  · rw [List.mem_singleton.mp hq, List.length_append, hBl]
    exact ⟨Nat.succ_le_succ (Nat.zero_le _), by show h.length + 1 + (ch t).length ≤ _; omega⟩
  · rw [List.mem_singleton.mp hq]; exact ch_ne hs
  · rw [List.mem_singleton.mp hq]; exact ch_wf w

theorem put_ok {t : Tr} (S : SyOk s) (w : Wf t) (hroom : h.length + 3 * sz t ≤ 100000) (hsz : sz t ≤ 10000)
    (q : ∀ h' c J', Put h t h' c → k c (Om s p h' xl (.dict tb3 :: J'))) : up (up (up G)) 406 [.own 7, enc t, .own 11] (Om s p h xl (.dict tb3 :: J)) k := by
  have hN : (Om s p h xl (.dict tb3 :: J)).length = 12 + J.length := by simp; omega
  have e0 := sz_ch t
  cases t with
  | v i =>
    have w : i < 3 := w
    have hq := q h (cR i) J ⟨fun _ _ => rfl, Nat.le_refl _, Nat.le_add_right _ _, rfl⟩
    rcases (by omega : i = 0 ∨ i = 1 ∨ i = 2) with rfl | rfl | rfl
    · walk_at "go"
      exact hq
    · walk_at "go"
      exact hq
    · walk_at "go"
      exact hq
  | i z =>
    have hq := q h (cI z) J ⟨fun _ _ => rfl, Nat.le_refl _, Nat.le_add_right _ _, rfl⟩
    walk_at "go"
    exact hq
  | u a =>
    generalize hU : up (up G) = U
    walk_at "go"
    subst hU
    refine block1 S (by omega) fun c1 => ?_
    have hB : Blk (.u a) [cF 12, c1] := ⟨[c1], rfl, rfl⟩
    generalize hU : up (up G) = U
    walk_at "go"
    subst hU
    refine base_S ?_
    generalize hU : up (up G) = U
    walk_at "go"
    refine ⟨sz (.u a) + 1, ?_⟩
    subst hU
    have e1 : totP [(h.length + 1, ch (.u a))] = tot (ch (.u a)) := rfl
    refine while_ok (xl := xl) (J := J) (p := p) S hN (sz (.u a) + 1) [(h.length + 1, ch (.u a))] [] (h ++ [cF 12, c1]) _ _ _ _ _ (by rw [e1]; omega) (pw_one w rfl hB) (by rw [e1, List.length_append]; simp; omega) (by rw [e1]; simp; omega) fun h' W' a4 a7 a8 a9 a10 a11 l1 l2 l3 l4 => ?_
    walk_at "go"
    exact q h' _ (J ++ [.list W']) (put_struct rfl hB l1 (by rw [e1] at l2; exact l2) l3 l4)
  | b f x y =>
    have fin : ∀ n : Nat, f = n → (0 < n ∧ n < 100) → (∃ a, s.F[n]? = some (.tup [.int a, .int 2])) → up (up (up G)) 406 [.own 7, enc (.b f x y), .own 11] (Om s p h xl (.dict tb3 :: J)) k := fun n e h1 h2 => by
      subst e
      obtain ⟨a, ha⟩ := h2
      generalize hU : up (up G) = U
      walk_at "go"
      subst hU
      refine block2 h1 ha (by omega) fun c1 c2 => ?_
      have hB : Blk (.b n x y) [cF n, c1, c2] := ⟨[c1, c2], rfl, rfl⟩
      generalize hU : up (up G) = U
      walk_at "go"
      subst hU
      refine base_S ?_
      generalize hU : up (up G) = U
      walk_at "go"
      refine ⟨sz (.b n x y) + 1, ?_⟩
      subst hU
      have e1 : totP [(h.length + 1, ch (.b n x y))] = tot (ch (.b n x y)) := rfl
      refine while_ok (xl := xl) (J := J) (p := p) S hN (sz (.b n x y) + 1) [(h.length + 1, ch (.b n x y))] [] (h ++ [cF n, c1, c2]) _ _ _ _ _ (by rw [e1]; omega) (pw_one w rfl hB) (by rw [e1, List.length_append]; simp; omega) (by rw [e1]; simp; omega) fun h' W' a4 a7 a8 a9 a10 a11 l1 l2 l3 l4 => ?_
      walk_at "go"
      exact q h' _ (J ++ [.list W']) (put_struct rfl hB l1 (by rw [e1] at l2; exact l2) l3 l4)
    rcases w.1 with rfl | rfl | rfl
    · exact fin 14 rfl (by decide) ⟨_, S.f14⟩
    · exact fin 13 rfl (by decide) ⟨_, S.f13⟩
    · exact fin 32 rfl (by decide) ⟨_, S.f32⟩

end
end Mine
end

section
open PySem Mine
set_option Elab.async false
set_option maxRecDepth 100000
set_option linter.unusedVariables false
set_option maxHeartbeats 8000000

namespace Mine
local macro_rules | `(tactic| walk_at "go") => `(tactic| ((conv => whnf); (repeat (refine ⟨by first | decide | exact Nat.le_of_ble_eq_true rfl | decide +kernel | exact trivial | exact rfl, ?_⟩; (conv => whnf)))))

section
variable {G : Orc} {p : MO} {h xl : List MV} {J : List MO} {s : Sy} {k : MV → List MO → Prop} {N : Nat} {o o' : MO}

theorem om_len : (Om s p h xl J).length = 11 + J.length := by simp; omega
theorem getJ (hN : N = 11 + J.length) : (Om s p h xl (J ++ [o]))[N]? = some o := by
  subst hN
  rw [Nat.add_comm]
  show (J ++ [o])[J.length]? = _
  simp
theorem setJ (hN : N = 11 + J.length) : (Om s p h xl (J ++ [o])).set N o' = Om s p h xl (J ++ [o']) := by
  subst hN
  rw [Nat.add_comm]
  show p :: .inst 154 symF :: .list s.T :: .dict s.A :: .list s.F :: .dict s.N :: .inst 746 areF :: .inst 423 stoF :: .list h :: .list xl :: .dict [] :: ((J ++ [o]).set J.length o') = _
  rw [List.set_append_right _ _ (Nat.le_refl _), Nat.sub_self]; rfl

inductive Dr (h : List MV) : MV → MV → Prop
  | I {z : Int} : Dr h (cI z) (cI z)
  | S {a : Nat} : Dr h (cS a) (cS a)
  | R {a : Nat} {z : Int} : h[a]? = some (cI z) → a < 100000 → Dr h (cR a) (cI z)

theorem glob_ok {c d : MV} (hd : Dr h c d) (q : k d (Om s p h xl J)) : up (up G) 300 [.own 7, c] (Om s p h xl J) k := by
  cases hd with
  | I => exact glob_I q
  | S => exact glob_S q
  | R h1 h2 => exact glob_R h1 h2 q

theorem put_gap {z : Int} (q : ∀ J', k (cI z) (Om s p h xl J')) : up (up G) 652 [.own 6, enc (.i z)] (Om s p h xl J) k := by
  walk_at "go"
  refine need_of (getJ (o := .dict []) om_len) ?_
  walk_at "go"
  exact q (J ++ [.dict []])

noncomputable def bodyV : MSs := (.cons (.expr (.callm (.loc 3) 0 (.cons (.callm (.loc 0) 42 (.cons (.loc 4) .nil)) .nil))) .nil)
noncomputable def bodyM : MSs := (.cons (.asgS (.attr (.loc 0) 10) (.loc 6) (.loc 7)) (.cons (.augL 6 (.lit (.int (1)))) .nil))

/-- the state in plain form -/
theorem norm {B : MSs} {σ : S} {K : Fl → S → Prop} (σ' : S) (h1 : σ.loc = σ'.loc) (h2 : σ.obs = σ'.obs) (h : evSs G tab B σ' K) : evSs G tab B σ K := by
  obtain ⟨a, b⟩ := σ
  obtain ⟨a', b'⟩ := σ'
  cases h1; cases h2; exact h

theorem bodyV_ok {V : List MV} {l5 l6 l7 : Option MV} {l2 : MV} {c d : MV} {K : Fl → S → Prop} (hN : N = 11 + J.length) (hd : Dr h c d) (hV : V.length < 1000) (q : K .next ⟨[some (.own 7), some (.int 14), some l2, some (.own N), some c, l5, l6, l7], Om s p h xl (J ++ [.list (V ++ [d])])⟩) :
    evSs (up (up G)) tab bodyV ⟨[some (.own 7), some (.int 14), some l2, some (.own N), some c, l5, l6, l7], Om s p h xl (J ++ [.list V])⟩ K := by
  generalize hU : up (up G) = U
  walk_at "go"
  refine need_of (getJ hN) ?_
  walk_at "go"
  subst hU
  refine glob_ok (J := J ++ [.list V]) hd ?_
  walk_at "go"
  refine need_of (getJ hN) ?_
  walk_at "go"
  refine ⟨by omega, ?_⟩
  walk_at "go"
  rw [← setJ hN (o := .list V)] at q
  exact q

theorem bodyM_ok {l2 l3 l4 l5 : Option MV} {pl : Nat} {d : MV} {K : Fl → S → Prop} (hpl : pl < h.length) (hl : h.length ≤ 100000) (q : K .next ⟨[some (.own 7), some (.int 14), l2, l3, l4, l5, some (.int ((pl + 1 : Nat) : Int)), some d], Om s p (h.set pl d) xl J⟩) :
    evSs G tab bodyM ⟨[some (.own 7), some (.int 14), l2, l3, l4, l5, some (.int (pl : Int)), some d], Om s p h xl J⟩ K := by
  walk_at "go"
  refine ⟨by omega, by omega, by rw [Int.toNat_natCast]; exact hpl, ?_⟩
  walk_at "go"
  exact q

theorem new_struct_ok {c1 c2 d1 d2 : MV} (S : SyOk s) (h1 : Dr h c1 d1) (h2 : Dr h c2 d2) (hl : h.length + 3 ≤ 100000) (q : ∀ J', k (cS h.length) (Om s p (h ++ [cF 14, d1, d2]) xl J')) :
    up (up (up G)) 384 [.own 7, .int 14, .flist [c1, c2]] (Om s p h xl J) k := by
  obtain ⟨N, hNd⟩ : ∃ N, N = (Om s p h xl J).length := ⟨_, rfl⟩
  have hN : N = 11 + J.length := hNd.trans om_len
  conv => whnf
  refine ⟨Nat.le_of_ble_eq_true rfl, Nat.le_of_ble_eq_true rfl, ?_⟩
  show evSs _ _ (.cons _ (.cons (.asg 3 (.list .nil)) (.cons (.forr 4 (.loc 2) bodyV) (.cons _ (.cons _ (.cons (.forr 7 (.loc 3) bodyM) _)))))) ⟨[some (.own 7), some (.int 14), some (.flist [c1, c2]), none, none, none, none, none], Om s p h xl J⟩ _
  refine cut (σ' := ⟨[some (.own 7), some (.int 14), some (.flist [c1, c2]), none, none, none, none, none], Om s p h xl J⟩) (fun K hK => by walk_at "go"; exact hK) ?_
  refine cut (σ' := ⟨[some (.own 7), some (.int 14), some (.flist [c1, c2]), some (.own N), none, none, none, none], Om s p h xl (J ++ [.list []])⟩) (fun K hK => by subst hNd; walk_at "go"; exact hK) ?_
  refine cut (σ' := ⟨[some (.own 7), some (.int 14), some (.flist [c1, c2]), some (.own N), some c2, none, none, none], Om s p h xl (J ++ [.list [d1, d2]])⟩) (fun K hK => ?_) ?_
  · conv => whnf
    refine ⟨trivial, bodyV_ok hN h1 (by decide) ?_⟩
    conv => whnf
    refine ⟨trivial, bodyV_ok hN h2 (by simp) ?_⟩
    conv => whnf
    exact ⟨trivial, hK⟩
  generalize hU : up (up G) = U
  walk_at "go"
  subst hU
  refine block2 (n := 14) (by decide) S.f14 hl fun e1 e2 => ?_
  generalize hU : up (up G) = U
  walk_at "go"
  subst hU
  refine base_S ?_
  generalize hU : up (up G) = U
  walk_at "go"
  subst hU
  refine need_of (getJ (o := .list [d1, d2]) hN) ?_
  have hlen : ∀ a b : MV, (h ++ [cF 14, a, b]).length = h.length + 3 := fun a b => by simp
  have g3 := getJ (s := s) (p := p) (h := h ++ [cF 14, e1, e2]) (xl := xl) (J := J) (o := .list [d1, d2]) hN
  conv => whnf
  refine ⟨g3, ?_⟩
  refine norm ⟨[some (.own 7), some (.int 14), some (.flist [c1, c2]), some (.own N), some c2, some (cS h.length), some (.int ((h.length + 1 : Nat) : Int)), some d1], Om s p (h ++ [cF 14, e1, e2]) xl (J ++ [.list [d1, d2]])⟩ rfl rfl ?_
  have B := fun K q => bodyM_ok (G := up (up G)) (h := h ++ [cF 14, e1, e2]) (p := p) (xl := xl) (s := s) (J := J ++ [MO.list [d1, d2]]) (pl := h.length + 1) (l2 := some (.flist [c1, c2])) (l3 := some (.own N)) (l4 := some c2) (l5 := some (cS h.length)) (d := d1) (K := K) (by rw [hlen]; omega) (by rw [hlen]; omega) q
  apply B
  clear B
  have s1 : (h ++ [cF 14, e1, e2]).set (h.length + 1) d1 = h ++ [cF 14, d1, e2] := by
    rw [List.set_append_right _ _ (by omega), show h.length + 1 - h.length = 1 by omega]; rfl
  have s2 : (h ++ [cF 14, d1, e2]).set (h.length + 1 + 1) d2 = h ++ [cF 14, d1, d2] := by
    rw [List.set_append_right _ _ (by omega), show h.length + 1 + 1 - h.length = 2 by omega]; rfl
  rw [s1]
  have g4 := getJ (s := s) (p := p) (h := h ++ [cF 14, d1, e2]) (xl := xl) (J := J) (o := .list [d1, d2]) hN
  conv => whnf
  refine ⟨g4, ?_⟩
  refine norm ⟨[some (.own 7), some (.int 14), some (.flist [c1, c2]), some (.own N), some c2, some (cS h.length), some (.int ((h.length + 1 + 1 : Nat) : Int)), some d2], Om s p (h ++ [cF 14, d1, e2]) xl (J ++ [.list [d1, d2]])⟩ rfl rfl ?_
  have B := fun K q => bodyM_ok (G := up (up G)) (h := h ++ [cF 14, d1, e2]) (p := p) (xl := xl) (s := s) (J := J ++ [MO.list [d1, d2]]) (pl := h.length + 1 + 1) (l2 := some (.flist [c1, c2])) (l3 := some (.own N)) (l4 := some c2) (l5 := some (cS h.length)) (d := d2) (K := K) (by rw [hlen]; omega) (by rw [hlen]; omega) q
  apply B
  clear B
  rw [s2]
  have g5 := getJ (s := s) (p := p) (h := h ++ [cF 14, d1, d2]) (xl := xl) (J := J) (o := .list [d1, d2]) hN
  conv => whnf
  refine ⟨g5, ?_⟩
  walk_at "go"
  exact q (J ++ [.list [d1, d2]])
end
end Mine
end

section
open PySem Mine
set_option Elab.async false
set_option maxRecDepth 100000
set_option linter.unusedVariables false
set_option maxHeartbeats 8000000

namespace Mine

/-! ## what a cell is worth -/
noncomputable def opI (n : Nat) (x y : Int) : Int := if n = 14 then x + y else if n = 13 then x - y else x * y

inductive Ev (rk : Nat → Nat) (h : List MV) : MV → Int → Nat → Prop
  | int {z : Int} : Ev rk h (cI z) z 1
  | ref {a : Nat} {z : Int} : h[a]? = some (cI z) → a < 100000 → Ev rk h (cR a) z 1
  | un {s : Nat} {ca : MV} {v : Int} {m : Nat} : s + 1 < 100000 → h[s]? = some (cF 12) → h[s + 1]? = some ca → (∀ s', ca = cS s' → rk s < rk s') → Ev rk h ca v m → (-v).natAbs < 2 ^ 4000 → Ev rk h (cS s) (-v) (m + 2)
  | bin {s n : Nat} {cx cy : MV} {x y : Int} {m1 m2 : Nat} : s + 2 < 100000 → (n = 14 ∨ n = 13 ∨ n = 32) → h[s]? = some (cF n) → h[s + 1]? = some cx → h[s + 2]? = some cy → (∀ s', cx = cS s' → rk s < rk s') → (∀ s', cy = cS s' → rk s < rk s') → Ev rk h cx x m1 → Ev rk h cy y m2 →
      x.natAbs < 2 ^ 4000 → y.natAbs < 2 ^ 4000 → (opI n x y).natAbs < 2 ^ 4000 → Ev rk h (cS s) (opI n x y) (m1 + m2 + 2)

theorem cF_inj {a b : Int} (h : cF a = cF b) : a = b := by unfold cF at h; simpa using h
theorem cI_inj {a b : Int} (h : cI a = cI b) : a = b := by unfold cI at h; simpa using h
theorem cR_inj {a b : Nat} (h : cR a = cR b) : a = b := by unfold cR at h; simp at h; omega
theorem cI_cR {a : Int} {b : Nat} (h : cI a = cR b) : False := by unfold cI cR at h; simp at h
theorem cI_cS {a : Int} {b : Nat} (h : cI a = cS b) : False := by unfold cI cS at h; simp at h
theorem cR_cS {a b : Nat} (h : cR a = cS b) : False := by unfold cR cS at h; simp at h

theorem ev_one {rk : Nat → Nat} {h : List MV} {c : MV} {v : Int} {m : Nat} (e : Ev rk h c v m) : ∀ {c' : MV} {v' : Int} {m' : Nat}, Ev rk h c' v' m' → c = c' → v = v' := by
  induction e with
  | int =>
    intro c' v' m' e' hc
    cases e' with
    | int => exact cI_inj hc
    | ref _ _ => exact (cI_cR hc).elim
    | un => exact (cI_cS hc).elim
    | bin => exact (cI_cS hc).elim
  | ref h1 h2 =>
    intro c' v' m' e' hc
    cases e' with
    | int => exact (cI_cR hc.symm).elim
    | ref h1' _ =>
      obtain rfl := cR_inj hc
      rw [h1] at h1'
      exact cI_inj (Option.some.inj h1')
    | un => exact (cR_cS hc).elim
    | bin => exact (cR_cS hc).elim
  | un b1 b2 b3 b4 b5 b6 ih =>
    intro c' v' m' e' hc
    cases e' with
    | int => exact (cI_cS hc.symm).elim
    | ref _ _ => exact (cR_cS hc.symm).elim
    | un d1 d2 d3 d4 d5 d6 =>
      obtain rfl := cS_inj hc
      rw [b3] at d3
      rw [ih d5 (Option.some.inj d3)]
    | bin d1 d2 d3 d4 d5 d6 d7 d8 d9 =>
      obtain rfl := cS_inj hc
      rw [b2] at d3
      have := cF_inj (Option.some.inj d3)
      exfalso; omega
  | bin b1 b2 b3 b4 b5 b6 b7 b8 b9 b10 b11 b12 ih1 ih2 =>
    intro c' v' m' e' hc
    cases e' with
    | int => exact (cI_cS hc.symm).elim
    | ref _ _ => exact (cR_cS hc.symm).elim
    | un d1 d2 d3 d4 d5 d6 =>
      obtain rfl := cS_inj hc
      rw [b3] at d2
      have := cF_inj (Option.some.inj d2)
      exfalso; omega
    | bin d1 d2 d3 d4 d5 d6 d7 d8 d9 =>
      obtain rfl := cS_inj hc
      rw [b3] at d3
      have e1 := cF_inj (Option.some.inj d3)
      rw [b4] at d4
      rw [b5] at d5
      rw [ih1 d8 (Option.some.inj d4), ih2 d9 (Option.some.inj d5)]
      congr 1
      omega

theorem Ev.mono {rk : Nat → Nat} {h h' : List MV} {c : MV} {v : Int} {m : Nat} (s : ∀ (j : Nat) x, h[j]? = some x → h'[j]? = some x) (e : Ev rk h c v m) : Ev rk h' c v m := by
  induction e with
  | int => exact .int
  | ref h1 h2 => exact .ref (s _ _ h1) h2
  | un b1 b2 b3 b4 b5 b6 ih => exact .un b1 (s _ _ b2) (s _ _ b3) b4 ih b6
  | bin b1 b2 b3 b4 b5 b6 b7 b8 b9 b10 b11 b12 ih1 ih2 => exact .bin b1 b2 (s _ _ b3) (s _ _ b4) (s _ _ b5) b6 b7 ih1 ih2 b10 b11 b12

/-! ## what is known -/
theorem getK_put {q q' : Key} {x : MV} : ∀ {es : List (Key × MV)}, getK q' (putK q x es) = if q = q' then some x else getK q' es
  | [] => by
    show getK q' [(q, x)] = _
    rw [getK_cons]
  | p :: r => by
    rw [putK_cons]
    by_cases hp : p.1 = q
    · rw [if_pos hp, getK_cons, getK_cons]
      show (if p.1 = q' then some x else _) = _
      rw [hp]
      by_cases h : q = q' <;> simp [h]
    · rw [if_neg hp, getK_cons, getK_cons, getK_put]
      by_cases h1 : p.1 = q'
      · rw [if_pos h1, if_pos h1, if_neg fun z => hp (h1.trans z.symm)]
      · rw [if_neg h1, if_neg h1]

theorem allKin_put {q : Key} {x : MV} {i : Int} : ∀ {es : List (Key × MV)}, allKin (.ki i) es → (Key.kin q (.ki i)) = true → allKin (.ki i) (putK q x es)
  | [], _, h2 => by show (Key.kin q (.ki i) && true) = true; rw [h2]; rfl
  | p :: r, h1, h2 => by
    have h1' : (p.1.kin (.ki i) && r.all fun p => p.1.kin (.ki i)) = true := h1
    rw [Bool.and_eq_true] at h1'
    rw [putK_cons]
    split
    · show (p.1.kin (.ki i) && _) = true
      rw [h1'.1]; exact h1'.2
    · show (p.1.kin (.ki i) && (putK q x r).all fun p => p.1.kin (.ki i)) = true
      rw [h1'.1, Bool.true_and]; exact allKin_put h1'.2 h2

theorem putK_len {q : Key} {x : MV} : ∀ es : List (Key × MV), (putK q x es).length ≤ es.length + 1
  | [] => Nat.le_refl _
  | p :: r => by
    rw [putK_cons]
    split
    · simp
    · have := putK_len (q := q) (x := x) r; simp; omega

theorem kin_i_any {i j : Int} {es : List (Key × MV)} (h : allKin (.ki i) es) : allKin (.ki j) es := by
  unfold allKin at *
  rw [List.all_eq_true] at *
  intro x hx
  have := h x hx
  unfold Key.kin at *
  split at this <;> first | cases this | skip
  · rename_i e1 e2; rw [e1]
  · rename_i e1 e2; cases e2
  · rename_i e1 e2; cases e2

structure KnOk (rk : Nat → Nat) (h : List MV) (kn : List (Key × MV)) : Prop where
  kin : allKin (.ki 0) kn
  val : ∀ (a : Nat) x, getK (.ki a) kn = some x → x = .none ∨ ∃ v m, x = .int v ∧ Ev rk h (cS a) v m

theorem kn_none {rk : Nat → Nat} {h : List MV} {kn : List (Key × MV)} (K : KnOk rk h kn) (a : Nat) : KnOk rk h (putK (.ki a) .none kn) := by
  refine ⟨allKin_put K.kin rfl, fun b x e => ?_⟩
  rw [getK_put] at e
  split at e
  · cases e; exact .inl rfl
  · exact K.val b x e
theorem kn_int {rk : Nat → Nat} {h : List MV} {kn : List (Key × MV)} (K : KnOk rk h kn) {a : Nat} {v : Int} {m : Nat} (E : Ev rk h (cS a) v m) : KnOk rk h (putK (.ki a) (.int v) kn) := by
  refine ⟨allKin_put K.kin rfl, fun b x e => ?_⟩
  rw [getK_put] at e
  split at e
  · rename_i hb
    have hb : a = b := by injection hb with hb; omega
    subst hb
    cases e; exact .inr ⟨v, m, rfl, E⟩
  · exact K.val b x e

/-! ## the three things of an evaluation -/
noncomputable abbrev OE (s : Sy) (p : MO) (h xl : List MV) (J : List MO) (kn : List (Key × MV)) (td vs : List MV) : List MO := Om s p h xl (J ++ [.dict kn, .list td, .list vs])

section
variable {s : Sy} {p : MO} {h xl td vs td' vs' : List MV} {J : List MO} {kn kn' : List (Key × MV)} {N : Nat}
theorem oe_eq : OE s p h xl J kn td vs = Om s p h xl J ++ [.dict kn, .list td, .list vs] := rfl
theorem gK (hN : N = 11 + J.length) : (OE s p h xl J kn td vs)[N]? = some (.dict kn) := by
  rw [oe_eq, List.getElem?_append_right (by rw [om_len]; omega), om_len, hN, Nat.sub_self]; rfl
theorem gT (hN : N = 11 + J.length) : (OE s p h xl J kn td vs)[N + 1]? = some (.list td) := by
  rw [oe_eq, List.getElem?_append_right (by rw [om_len]; omega), om_len, hN, show 11 + J.length + 1 - (11 + J.length) = 1 by omega]; rfl
theorem gV (hN : N = 11 + J.length) : (OE s p h xl J kn td vs)[N + 2]? = some (.list vs) := by
  rw [oe_eq, List.getElem?_append_right (by rw [om_len]; omega), om_len, hN, show 11 + J.length + 2 - (11 + J.length) = 2 by omega]; rfl
theorem sK (hN : N = 11 + J.length) : (OE s p h xl J kn td vs).set N (.dict kn') = OE s p h xl J kn' td vs := by
  rw [oe_eq, List.set_append_right _ _ (by rw [om_len]; omega), om_len, hN, Nat.sub_self]; rfl
theorem sT (hN : N = 11 + J.length) : (OE s p h xl J kn td vs).set (N + 1) (.list td') = OE s p h xl J kn td' vs := by
  rw [oe_eq, List.set_append_right _ _ (by rw [om_len]; omega), om_len, hN, show 11 + J.length + 1 - (11 + J.length) = 1 by omega]; rfl
theorem sVs (hN : N = 11 + J.length) : (OE s p h xl J kn td vs).set (N + 2) (.list vs') = OE s p h xl J kn td vs' := by
  rw [oe_eq, List.set_append_right _ _ (by rw [om_len]; omega), om_len, hN, show 11 + J.length + 2 - (11 + J.length) = 2 by omega]; rfl
end
end Mine
end

section
open PySem Mine
set_option Elab.async false
set_option maxRecDepth 100000
set_option linter.unusedVariables false
set_option maxHeartbeats 8000000

namespace Mine
local macro_rules | `(tactic| walk_at "go") => `(tactic| ((conv => whnf); (repeat (refine ⟨by first | decide | exact Nat.le_of_ble_eq_true rfl | decide +kernel | exact trivial | exact rfl, ?_⟩; (conv => whnf)))))

section
variable {G : Orc} {s : Sy} {p : MO} {h xl td V : List MV} {J : List MO} {kn : List (Key × MV)} {N : Nat} {k : MV → List MO → Prop}

theorem bits_ok {v : Int} (h : v.natAbs < 2 ^ 4000) : decide (bitLen v > 4096) = false := by
  refine decide_eq_false ?_
  have := PyProof.Rows.intBits_le (k := 4000) h
  unfold bitLen
  omega

theorem last_V {x : MV} : (V ++ [x]).getLast? = some x := by simp
theorem gV2 (hN : N = 11 + J.length) {vs vs' : List MV} : ((OE s p h xl J kn td vs).set (N + 2) (.list vs'))[N + 2]? = some (.list vs') := by rw [sVs hN, gV hN]

theorem low (hN : N = 11 + J.length) {vs : List MV} {x o : MO} {i : Nat} (hi : i < 11) (ho : (OE s p h xl J kn td vs)[i]? = some o) : ((OE s p h xl J kn td vs).set (N + 2) x)[i]? = some o := by
  rw [List.getElem?_set_ne (by omega)]; exact ho
theorem low2 (hN : N = 11 + J.length) {vs : List MV} {x y o : MO} {i : Nat} (hi : i < 11) (ho : (OE s p h xl J kn td vs)[i]? = some o) : (((OE s p h xl J kn td vs).set (N + 2) x).set (N + 2) y)[i]? = some o := by
  rw [List.getElem?_set_ne (by omega)]; exact low hN hi ho
theorem gV3 (hN : N = 11 + J.length) {vs vs' vs'' : List MV} : (((OE s p h xl J kn td vs).set (N + 2) (.list vs')).set (N + 2) (.list vs''))[N + 2]? = some (.list vs'') := by rw [sVs hN]; exact gV2 hN

theorem apf_un {v : Int} (S : SyOk s) (hN : N = 11 + J.length) (hv : (-v).natAbs < 2 ^ 4000) (hV : V.length < 100000) (q : k .none (OE s p h xl J kn td (V ++ [.int (-v)]))) :
    up (up G) 539 [.own 1, .int 12, .own (N + 2), .int 4096] (OE s p h xl J kn td (V ++ [.int v])) k := by
  walk_at "go"
  refine need_of S.f12 ?_
  walk_at "go"
  refine need_of S.t3 ?_
  walk_at "go"
  refine need_of (gV hN) ?_
  walk_at "go"
  refine need_of (gV hN) ?_
  walk_at "go"
  refine need_of last_V ?_
  walk_at "go"
  repeat ((first | refine need_of (low (i := 1) hN (by decide) rfl) ?_ | refine need_of (low (i := 4) hN (by decide) rfl) ?_ | refine need_of (low (i := 2) hN (by decide) rfl) ?_); walk_at "go")
  refine need_of S.f12 ?_
  walk_at "go"
  refine need_of (gV2 hN) ?_
  walk_at "go"
  rw [bits_ok hv]
  walk_at "go"
  refine need_of (gV2 hN) ?_
  walk_at "go"
  refine ⟨by simp; omega, ?_⟩
  walk_at "go"
  have := q
  rw [show OE s p h xl J kn td (V ++ [.int (-v)]) = ((OE s p h xl J kn td (V ++ [.int v])).set (N + 2) (.list (V ++ [MV.int v]).dropLast)).set (N + 2) (.list ((V ++ [MV.int v]).dropLast ++ [MV.int (-v)])) from by rw [sVs hN, sVs hN]; simp] at this
  exact this

theorem pow_up {v : Int} (h : v.natAbs < 2 ^ 4000) : v.natAbs < 2 ^ 30000 := Nat.lt_of_lt_of_le h (Nat.pow_le_pow_right (by decide) (by decide))

theorem apf_bin {n : Nat} {x y : Int} (hn : n = 14 ∨ n = 13 ∨ n = 32) (S : SyOk s) (hN : N = 11 + J.length) (hx : x.natAbs < 2 ^ 4000) (hy : y.natAbs < 2 ^ 4000) (hv : (opI n x y).natAbs < 2 ^ 4000) (hV : V.length < 100000) (q : k .none (OE s p h xl J kn td (V ++ [.int (opI n x y)]))) :
    up (up G) 539 [.own 1, .int n, .own (N + 2), .int 4096] (OE s p h xl J kn td (V ++ [.int x, .int y])) k := by
  have e0 : V ++ [MV.int x, MV.int y] = (V ++ [MV.int x]) ++ [MV.int y] := by simp
  have e9 : OE s p h xl J kn td (V ++ [MV.int (opI n x y)]) = (((OE s p h xl J kn td ((V ++ [MV.int x]) ++ [MV.int y])).set (N + 2) (.list ((V ++ [MV.int x]) ++ [MV.int y]).dropLast)).set (N + 2) (.list ((V ++ [MV.int x]) ++ [MV.int y]).dropLast.dropLast)).set (N + 2) (.list (((V ++ [MV.int x]) ++ [MV.int y]).dropLast.dropLast ++ [MV.int (opI n x y)])) := by
    rw [sVs hN, sVs hN, sVs hN]; simp
  rw [e0]
  rw [e9] at q
  rcases hn with rfl | rfl | rfl
  · walk_at "go"
    refine need_of S.f14 ?_
    walk_at "go"
    refine need_of S.t4 ?_
    walk_at "go"
    refine need_of (gV hN) ?_
    walk_at "go"
    refine need_of (gV hN) ?_
    walk_at "go"
    refine need_of last_V ?_
    walk_at "go"
    repeat ((first | refine need_of (low (i := 1) hN (by decide) rfl) ?_ | refine need_of (low (i := 4) hN (by decide) rfl) ?_ | refine need_of (low (i := 2) hN (by decide) rfl) ?_); walk_at "go")
    refine need_of S.f14 ?_
    walk_at "go"
    refine need_of (gV2 hN) ?_
    walk_at "go"
    refine need_of (gV2 hN) ?_
    walk_at "go"
    refine need_of (a := MV.int x) (by simp) ?_
    walk_at "go"
    refine need_of (gV3 hN) ?_
    walk_at "go"
    rw [show (decide (bitLen (x + y) > 4096)) = false from bits_ok hv]
    walk_at "go"
    refine need_of (gV3 hN) ?_
    walk_at "go"
    refine ⟨by simp; omega, ?_⟩
    walk_at "go"
    exact q
  · walk_at "go"
    refine need_of S.f13 ?_
    walk_at "go"
    refine need_of S.t3 ?_
    walk_at "go"
    refine need_of (gV hN) ?_
    walk_at "go"
    refine need_of (gV hN) ?_
    walk_at "go"
    refine need_of last_V ?_
    walk_at "go"
    repeat ((first | refine need_of (low (i := 1) hN (by decide) rfl) ?_ | refine need_of (low (i := 4) hN (by decide) rfl) ?_ | refine need_of (low (i := 2) hN (by decide) rfl) ?_); walk_at "go")
    refine need_of S.f13 ?_
    walk_at "go"
    refine need_of (gV2 hN) ?_
    walk_at "go"
    refine need_of (gV2 hN) ?_
    walk_at "go"
    refine need_of (a := MV.int x) (by simp) ?_
    walk_at "go"
    refine need_of (gV3 hN) ?_
    walk_at "go"
    rw [show (decide (bitLen (x - y) > 4096)) = false from bits_ok hv]
    walk_at "go"
    refine need_of (gV3 hN) ?_
    walk_at "go"
    refine ⟨by simp; omega, ?_⟩
    walk_at "go"
    exact q
  · walk_at "go"
    refine need_of S.f32 ?_
    walk_at "go"
    refine need_of S.t5 ?_
    walk_at "go"
    refine need_of (gV hN) ?_
    walk_at "go"
    refine need_of (gV hN) ?_
    walk_at "go"
    refine need_of last_V ?_
    walk_at "go"
    repeat ((first | refine need_of (low (i := 1) hN (by decide) rfl) ?_ | refine need_of (low (i := 4) hN (by decide) rfl) ?_ | refine need_of (low (i := 2) hN (by decide) rfl) ?_); walk_at "go")
    refine need_of S.f32 ?_
    walk_at "go"
    refine need_of (gV2 hN) ?_
    walk_at "go"
    refine need_of (gV2 hN) ?_
    walk_at "go"
    refine need_of (a := MV.int x) (by simp) ?_
    walk_at "go"
    refine ⟨pow_up hx, pow_up hy, ?_⟩
    walk_at "go"
    refine need_of (gV3 hN) ?_
    walk_at "go"
    rw [show (decide (bitLen (x * y) > 4096)) = false from bits_ok hv]
    walk_at "go"
    refine need_of (gV3 hN) ?_
    walk_at "go"
    refine ⟨by simp; omega, ?_⟩
    walk_at "go"
    exact q

end
end Mine
end

section
open PySem Mine
set_option Elab.async false
set_option maxRecDepth 100000
set_option linter.unusedVariables false
set_option maxHeartbeats 8000000

namespace Mine
local macro_rules | `(tactic| walk_at "go") => `(tactic| ((conv => whnf); (repeat (refine ⟨by first | decide | exact Nat.le_of_ble_eq_true rfl | decide +kernel | exact trivial | exact rfl, ?_⟩; (conv => whnf)))))

noncomputable def condE : MT := (.val (.loc 5))
noncomputable def restE : MSs := (.cons (.iff (.val (.cmp .eq (.sub (.loc 7) (.lit (.int (0)))) (.lit (.int (6))))) (.cons (.expr (.callf 539 (.cons (.loc 3) (.cons (.sub (.sub (.attr (.loc 2) 10) (.sub (.loc 7) (.lit (.int (1))))) (.lit (.int (1)))) (.cons (.loc 6) (.cons (.attr (.loc 0) 17) .nil)))))) (.cons (.asgS (.loc 4) (.sub (.loc 7) (.lit (.int (1)))) (.sub (.loc 6) (.bin .sub (.prim .len (.cons (.loc 6) .nil)) (.lit (.int (1)))))) (.cons .cont .nil))) .nil) (.cons (.asg 7 (.callm (.loc 2) 40 (.cons (.loc 7) .nil))) (.cons (.iff (.val (.cmp .eq (.sub (.loc 7) (.lit (.int (0)))) (.lit (.int (5))))) (.cons (.expr (.callm (.loc 6) 0 (.cons (.sub (.loc 7) (.lit (.int (1)))) .nil))) .nil) (.cons (.iff (.val (.cmp .eq (.sub (.loc 7) (.lit (.int (0)))) (.lit (.int (4))))) (.cons .stuck .nil) (.cons (.iff (.val (.cmp .eq (.sub (.loc 7) (.lit (.int (0)))) (.lit (.int (3))))) (.cons .stuck .nil) (.cons (.iff (.val (.cmp .eq (.sub (.loc 7) (.lit (.int (0)))) (.lit (.int (2))))) (.cons (.iff (.val (.cmp .isin (.sub (.loc 7) (.lit (.int (1)))) (.loc 4))) (.cons (.iff (.val (.cmp .isnone (.sub (.loc 4) (.sub (.loc 7) (.lit (.int (1))))) (.lit .none))) (.cons .stuck .nil) .nil) (.cons (.expr (.callm (.loc 6) 0 (.cons (.sub (.loc 4) (.sub (.loc 7) (.lit (.int (1))))) .nil))) (.cons .cont .nil))) .nil) (.cons (.asg 8 (.callm (.loc 2) 43 (.cons (.loc 7) .nil))) (.cons (.expr (.callf 448 (.cons (.loc 3) (.cons (.loc 8) .nil)))) (.cons (.asgS (.loc 4) (.sub (.loc 7) (.lit (.int (1)))) (.lit .none)) (.cons (.expr (.callm (.loc 5) 0 (.cons (.tup (.cons (.lit (.int (6))) (.cons (.sub (.loc 7) (.lit (.int (1)))) .nil))) .nil))) (.cons (.forr 9 (.prim .range (.cons (.callm (.loc 3) 36 (.cons (.loc 8) .nil)) (.cons (.lit (.int (0))) (.cons (.neg (.lit (.int (1)))) .nil)))) (.cons (.expr (.callm (.loc 5) 0 (.cons (.callm (.loc 2) 45 (.cons (.loc 7) (.cons (.loc 9) .nil))) .nil))) .nil)) .nil)))))) (.cons .stuck .nil)) .nil)) .nil)) .nil)) .nil)))
noncomputable def bodyE : MSs := .cons (.asg 7 (.callm (.loc 5) 1 .nil)) restE

section
variable {G : Orc} {s : Sy} {p : MO} {h xl td vs V R : List MV} {J : List MO} {kn : List (Key × MV)} {N : Nat} {k : MV → List MO → Prop} {K : Fl → S → Prop} {c0 l7 l8 l9 : Option MV}

theorem check_un (S : SyOk s) (q : k .none (Om s p h xl J)) : up (up G) 448 [.own 1, .int 12] (Om s p h xl J) k := by
  walk_at "go"
  refine need_of S.f12 ?_
  walk_at "go"
  refine need_of S.f12 ?_
  walk_at "go"
  refine need_of S.t3 ?_
  walk_at "go"
  exact q
theorem check_bin {n : Nat} (hn : n = 14 ∨ n = 13 ∨ n = 32) (S : SyOk s) (q : k .none (Om s p h xl J)) : up (up G) 448 [.own 1, .int n] (Om s p h xl J) k := by
  rcases hn with rfl | rfl | rfl
  · walk_at "go"
    refine need_of S.f14 ?_
    walk_at "go"
    refine need_of S.f14 ?_
    walk_at "go"
    refine need_of S.t4 ?_
    walk_at "go"
    exact q
  · walk_at "go"
    refine need_of S.f13 ?_
    walk_at "go"
    refine need_of S.f13 ?_
    walk_at "go"
    refine need_of S.t3 ?_
    walk_at "go"
    exact q
  · walk_at "go"
    refine need_of S.f32 ?_
    walk_at "go"
    refine need_of S.f32 ?_
    walk_at "go"
    refine need_of S.t5 ?_
    walk_at "go"
    exact q

/-- the locals of an evaluation -/
noncomputable abbrev LE (c0 : Option MV) (N : Nat) (l7 l8 l9 : Option MV) : List (Option MV) := [some (.own 6), c0, some (.own 7), some (.own 1), some (.own N), some (.own (N + 1)), some (.own (N + 2)), l7, l8, l9]

theorem pop_E {c : MV} (hN : N = 11 + J.length) (q : evSs G tab restE ⟨LE c0 N (some c) l8 l9, OE s p h xl J kn R vs⟩ K) : evSs G tab bodyE ⟨LE c0 N l7 l8 l9, OE s p h xl J kn (R ++ [c]) vs⟩ K := by
  refine cut (σ' := ⟨LE c0 N (some c) l8 l9, OE s p h xl J kn R vs⟩) (fun K hK => ?_) q
  walk_at "go"
  refine need_of (gT hN) ?_
  walk_at "go"
  refine need_of (gT hN) ?_
  walk_at "go"
  refine need_of (a := c) (by simp) ?_
  rw [show OE s p h xl J kn R vs = (OE s p h xl J kn (R ++ [c]) vs).set (N + 1) (.list (R ++ [c]).dropLast) from by rw [sT hN]; simp] at hK
  walk_at "go"
  exact hK

end
end Mine
end

section
open PySem Mine
set_option Elab.async false
set_option maxRecDepth 100000
set_option linter.unusedVariables false
set_option maxHeartbeats 8000000

namespace Mine
local macro_rules | `(tactic| walk_at "go") => `(tactic| ((conv => whnf); (repeat (refine ⟨by first | decide | exact Nat.le_of_ble_eq_true rfl | decide +kernel | exact trivial | exact rfl, ?_⟩; (conv => whnf)))))

section
variable {G : Orc} {s : Sy} {p : MO} {h xl td vs V R : List MV} {J : List MO} {kn : List (Key × MV)} {N : Nat} {k : MV → List MO → Prop} {K : Fl → S → Prop} {c0 l7 l8 l9 : Option MV}

theorem e_int {z : Int} (hN : N = 11 + J.length) (hV : vs.length < 100000) (q : ∀ l7, K .next ⟨LE c0 N l7 l8 l9, OE s p h xl J kn R (vs ++ [.int z])⟩) : evSs (up (up (up G))) tab bodyE ⟨LE c0 N l7 l8 l9, OE s p h xl J kn (R ++ [cI z]) vs⟩ K := by
  refine pop_E hN ?_
  generalize hU : up (up (up G)) = U
  walk_at "go"
  subst hU
  refine deref_I ?_
  generalize hU : up (up (up G)) = U
  walk_at "go"
  refine need_of (gV hN) ?_
  walk_at "go"
  refine need_of (gV hN) ?_
  walk_at "go"
  refine ⟨by omega, ?_⟩
  have := q (some (cI z))
  rw [← sVs hN (vs := vs)] at this
  walk_at "go"
  exact this

theorem e_ref {a : Nat} {z : Int} (ha : h[a]? = some (cI z)) (hl : a < 100000) (hN : N = 11 + J.length) (hV : vs.length < 100000) (q : ∀ l7, K .next ⟨LE c0 N l7 l8 l9, OE s p h xl J kn R (vs ++ [.int z])⟩) : evSs (up (up (up G))) tab bodyE ⟨LE c0 N l7 l8 l9, OE s p h xl J kn (R ++ [cR a]) vs⟩ K := by
  refine pop_E hN ?_
  generalize hU : up (up (up G)) = U
  walk_at "go"
  subst hU
  refine deref_R ha hl ?_
  generalize hU : up (up (up G)) = U
  walk_at "go"
  refine need_of (gV hN) ?_
  walk_at "go"
  refine need_of (gV hN) ?_
  walk_at "go"
  refine ⟨by omega, ?_⟩
  have := q (some (cI z))
  rw [← sVs hN (vs := vs)] at this
  walk_at "go"
  exact this

theorem e_known {a : Nat} {v : Int} (hk : allKin (.ki (a : Int)) kn) (hg : getK (.ki (a : Int)) kn = some (.int v)) (hN : N = 11 + J.length) (hV : vs.length < 100000) (q : ∀ l7, K .cont ⟨LE c0 N l7 l8 l9, OE s p h xl J kn R (vs ++ [.int v])⟩) : evSs (up (up (up G))) tab bodyE ⟨LE c0 N l7 l8 l9, OE s p h xl J kn (R ++ [cS a]) vs⟩ K := by
  refine pop_E hN ?_
  generalize hU : up (up (up G)) = U
  walk_at "go"
  subst hU
  refine deref_S ?_
  generalize hU : up (up (up G)) = U
  walk_at "go"
  refine need_of (gK hN) ?_
  refine ⟨hk, ?_⟩
  walk_at "go"
  rw [hg]
  walk_at "go"
  refine need_of (gK hN) ?_
  refine ⟨hk, ?_⟩
  refine need_of hg ?_
  walk_at "go"
  refine need_of (gV hN) ?_
  walk_at "go"
  refine need_of (gK hN) ?_
  refine ⟨hk, ?_⟩
  refine need_of hg ?_
  walk_at "go"
  refine need_of (gV hN) ?_
  walk_at "go"
  refine ⟨by omega, ?_⟩
  have := q (some (cS a))
  rw [← sVs hN (vs := vs)] at this
  walk_at "go"
  exact this

end
end Mine
end

section
open PySem Mine
set_option Elab.async false
set_option maxRecDepth 100000
set_option linter.unusedVariables false
set_option maxHeartbeats 8000000

namespace Mine
local macro_rules | `(tactic| walk_at "go") => `(tactic| ((conv => whnf); (repeat (refine ⟨by first | decide | exact Nat.le_of_ble_eq_true rfl | decide +kernel | exact trivial | exact rfl, ?_⟩; (conv => whnf)))))

theorem callO {U : Orc} {f : Nat} {us : List MV} {O O' : List MO} {k : MV → List MO → Prop} (h : O = O') (q : U f us O' k) : U f us O k := h ▸ q

section
variable {G : Orc} {s : Sy} {p : MO} {h xl td vs V R : List MV} {J : List MO} {kn : List (Key × MV)} {N : Nat} {k : MV → List MO → Prop} {K : Fl → S → Prop} {c0 l7 l8 l9 : Option MV}

theorem gT1 (hN : N = 11 + J.length) {kn' : List (Key × MV)} : ((OE s p h xl J kn td vs).set N (.dict kn'))[N + 1]? = some (.list td) := by rw [sK hN, gT hN]

theorem lowKT (hN : N = 11 + J.length) {x y o : MO} {i : Nat} (hi : i < 11) (ho : (OE s p h xl J kn td vs)[i]? = some o) : (((OE s p h xl J kn td vs).set N x).set (N + 1) y)[i]? = some o := by
  rw [List.getElem?_set_ne (by omega), List.getElem?_set_ne (by omega)]; exact ho

theorem lowT (hN : N = 11 + J.length) {y o : MO} {i : Nat} (hi : i < 11) (ho : (OE s p h xl J kn td vs)[i]? = some o) : ((OE s p h xl J kn td vs).set (N + 1) y)[i]? = some o := by
  rw [List.getElem?_set_ne (by omega)]; exact ho

theorem e_un {a : Nat} {ca : MV} (S : SyOk s) (hk : allKin (.ki (a : Int)) kn) (hg : getK (.ki (a : Int)) kn = none) (hkl : kn.length < 100000) (hR : R.length < 100000) (hN : N = 11 + J.length) (ha : a + 1 < 100000) (h1 : h[a]? = some (cF 12)) (h2 : h[a + 1]? = some ca)
    (q : ∀ l7 l8 l9, K .next ⟨LE c0 N l7 l8 l9, OE s p h xl J (putK (.ki (a : Int)) .none kn) ((R ++ [cF a]) ++ [ca]) vs⟩) : evSs (up (up (up G))) tab bodyE ⟨LE c0 N l7 l8 l9, OE s p h xl J kn (R ++ [cS a]) vs⟩ K := by
  refine pop_E hN ?_
  generalize hU : up (up (up G)) = U
  walk_at "go"
  subst hU
  refine deref_S ?_
  generalize hU : up (up (up G)) = U
  walk_at "go"
  refine need_of (gK hN) ?_
  refine ⟨hk, ?_⟩
  walk_at "go"
  rw [hg]
  walk_at "go"
  subst hU
  refine functor_S h1 (by omega) ?_
  generalize hU : up (up (up G)) = U
  walk_at "go"
  subst hU
  refine check_un S ?_
  generalize hU : up (up (up G)) = U
  walk_at "go"
  refine need_of (gK hN) ?_
  refine ⟨hk, by omega, trivial, ?_⟩
  walk_at "go"
  refine need_of (gT1 hN) ?_
  walk_at "go"
  refine need_of (gT1 hN) ?_
  walk_at "go"
  refine ⟨by omega, ?_⟩
  walk_at "go"
  refine need_of (lowKT (i := 1) hN (by decide) rfl) ?_
  walk_at "go"
  refine callO (O' := OE s p h xl J (putK (.ki (a : Int)) .none kn) (R ++ [cF a]) vs) (show ((OE s p h xl J kn R vs).set N (.dict (putK (.ki (a : Int)) .none kn))).set (N + 1) (.list (R ++ [cF a])) = _ by rw [sK hN, sT hN]) ?_
  subst hU
  refine arity_any (n := 12) (hn := by decide) S.f12 ?_
  generalize hU : up (up (up G)) = U
  walk_at "go"
  refine need_of (gT hN) ?_
  walk_at "go"
  subst hU
  refine arg_S (c := ca) (show (0 : Int) ≤ (a : Int) + 1 + (1 + 0 * (-1)) - 1 by omega) (show (a : Int) + 1 + (1 + 0 * (-1)) - 1 < 100000 by omega) ?_ ?_
  · rw [show ((a : Int) + 1 + (1 + ((0 : Nat) : Int) * (-1)) - 1).toNat = a + 1 from (show ((a : Int) + 1 + (1 + 0 * (-1)) - 1).toNat = a + 1 by omega)]; exact h2
  generalize hU : up (up (up G)) = U
  walk_at "go"
  refine need_of (gT hN) ?_
  walk_at "go"
  refine ⟨by simp; omega, ?_⟩
  have := q (some (cS a)) (some (.int 12)) (some (.int (1 + ((0 : Nat) : Int) * (-1))))
  rw [← sT hN (td := R ++ [cF a])] at this
  walk_at "go"
  exact this

theorem e_bin {n a : Nat} {cx cy : MV} {fa : Int} (hn : n = 14 ∨ n = 13 ∨ n = 32) (hF : s.F[n]? = some (.tup [.int fa, .int 2])) (S : SyOk s) (hk : allKin (.ki (a : Int)) kn) (hg : getK (.ki (a : Int)) kn = none) (hkl : kn.length < 100000) (hR : R.length < 100000) (hN : N = 11 + J.length) (ha : a + 2 < 100000) (h1 : h[a]? = some (cF n)) (h2 : h[a + 1]? = some cx) (h3 : h[a + 2]? = some cy)
    (q : ∀ l7 l8 l9, K .next ⟨LE c0 N l7 l8 l9, OE s p h xl J (putK (.ki (a : Int)) .none kn) (((R ++ [cF a]) ++ [cy]) ++ [cx]) vs⟩) : evSs (up (up (up G))) tab bodyE ⟨LE c0 N l7 l8 l9, OE s p h xl J kn (R ++ [cS a]) vs⟩ K := by
  refine pop_E hN ?_
  generalize hU : up (up (up G)) = U
  walk_at "go"
  subst hU
  refine deref_S ?_
  generalize hU : up (up (up G)) = U
  walk_at "go"
  refine need_of (gK hN) ?_
  refine ⟨hk, ?_⟩
  walk_at "go"
  rw [hg]
  walk_at "go"
  subst hU
  refine functor_S h1 (by omega) ?_
  generalize hU : up (up (up G)) = U
  walk_at "go"
  subst hU
  refine check_bin hn S ?_
  generalize hU : up (up (up G)) = U
  walk_at "go"
  refine need_of (gK hN) ?_
  refine ⟨hk, by omega, trivial, ?_⟩
  walk_at "go"
  refine need_of (gT1 hN) ?_
  walk_at "go"
  refine need_of (gT1 hN) ?_
  walk_at "go"
  refine ⟨by omega, ?_⟩
  walk_at "go"
  refine need_of (lowKT (i := 1) hN (by decide) rfl) ?_
  walk_at "go"
  refine callO (O' := OE s p h xl J (putK (.ki (a : Int)) .none kn) (R ++ [cF a]) vs) (show ((OE s p h xl J kn R vs).set N (.dict (putK (.ki (a : Int)) .none kn))).set (N + 1) (.list (R ++ [cF a])) = _ by rw [sK hN, sT hN]) ?_
  subst hU
  refine arity_any (n := n) (hn := by omega) hF ?_
  generalize hU : up (up (up G)) = U
  walk_at "go"
  refine need_of (gT hN) ?_
  walk_at "go"
  subst hU
  refine arg_S (c := cy) (show (0 : Int) ≤ (a : Int) + 1 + (2 + 0 * (-1)) - 1 by omega) (show (a : Int) + 1 + (2 + 0 * (-1)) - 1 < 100000 by omega) ?_ ?_
  · rw [show ((a : Int) + 1 + (2 + ((0 : Nat) : Int) * (-1)) - 1).toNat = a + 2 from (show ((a : Int) + 1 + (2 + 0 * (-1)) - 1).toNat = a + 2 by omega)]; exact h3
  generalize hU : up (up (up G)) = U
  walk_at "go"
  refine need_of (gT hN) ?_
  walk_at "go"
  refine ⟨by simp; omega, ?_⟩
  walk_at "go"
  have g2 : ((OE s p h xl J (putK (.ki (a : Int)) .none kn) (R ++ [cF a]) vs).set (N + 1) (.list ((R ++ [cF a]) ++ [cy])))[N + 1]? = some (.list ((R ++ [cF a]) ++ [cy])) := by rw [sT hN, gT hN]
  refine need_of g2 ?_
  walk_at "go"
  refine need_of (lowT (i := 7) hN (by decide) rfl) ?_
  walk_at "go"
  refine callO (O' := OE s p h xl J (putK (.ki (a : Int)) .none kn) ((R ++ [cF a]) ++ [cy]) vs) (show (OE s p h xl J (putK (.ki (a : Int)) .none kn) (R ++ [cF a]) vs).set (N + 1) (.list ((R ++ [cF a]) ++ [cy])) = _ by rw [sT hN]) ?_
  subst hU
  refine arg_S (c := cx) (show (0 : Int) ≤ (a : Int) + 1 + (2 + 1 * (-1)) - 1 by omega) (show (a : Int) + 1 + (2 + 1 * (-1)) - 1 < 100000 by omega) ?_ ?_
  · rw [show ((a : Int) + 1 + (2 + ((1 : Nat) : Int) * (-1)) - 1).toNat = a + 1 from (show ((a : Int) + 1 + (2 + 1 * (-1)) - 1).toNat = a + 1 by omega)]; exact h2
  generalize hU : up (up (up G)) = U
  walk_at "go"
  refine need_of (gT hN) ?_
  walk_at "go"
  refine ⟨by simp; omega, ?_⟩
  have := q (some (cS a)) (some (.int n)) (some (.int (2 + ((1 : Nat) : Int) * (-1))))
  rw [← sT hN (td := (R ++ [cF a]) ++ [cy])] at this
  walk_at "go"
  exact this
end
end Mine
end

section
open PySem Mine
set_option Elab.async false
set_option maxRecDepth 100000
set_option linter.unusedVariables false
set_option maxHeartbeats 8000000

namespace Mine
local macro_rules | `(tactic| walk_at "go") => `(tactic| ((conv => whnf); (repeat (refine ⟨by first | decide | exact Nat.le_of_ble_eq_true rfl | decide +kernel | exact trivial | exact rfl, ?_⟩; (conv => whnf)))))

section
variable {G : Orc} {s : Sy} {p : MO} {h xl td vs V R : List MV} {J : List MO} {kn : List (Key × MV)} {N : Nat} {k : MV → List MO → Prop} {K : Fl → S → Prop} {c0 l7 l8 l9 : Option MV}

theorem lastIdx {x : MV} : (V ++ [x])[(((V ++ [x]).length : Int) - 1).toNat]? = some x := by
  have : (((V ++ [x]).length : Int) - 1).toNat = V.length := by simp
  rw [this]; simp

/-- what a marker does, once the functor has been applied -/
theorem e_fun {a n : Nat} {w : Int} (ha : a < 100000) (h1 : h[a]? = some (cF n)) (hk : allKin (.ki (a : Int)) kn) (hkl : kn.length < 100000) (hV : V.length < 100000) (hN : N = 11 + J.length)
    (hap : ∀ k : MV → List MO → Prop, k .none (OE s p h xl J kn R (V ++ [.int w])) → up (up (up G)) 539 [.own 1, .int n, .own (N + 2), .int 4096] (OE s p h xl J kn R vs) k)
    (q : ∀ l7, K .cont ⟨LE c0 N l7 l8 l9, OE s p h xl J (putK (.ki (a : Int)) (.int w) kn) R (V ++ [.int w])⟩) : evSs (up (up (up G))) tab bodyE ⟨LE c0 N l7 l8 l9, OE s p h xl J kn (R ++ [cF a]) vs⟩ K := by
  refine pop_E hN ?_
  generalize hU : up (up (up G)) = U at *
  walk_at "go"
  refine ⟨by omega, by omega, ?_⟩
  refine need_of (show h[((a : Nat) : Int).toNat]? = _ by rw [Int.toNat_natCast]; exact h1) ?_
  walk_at "go"
  refine hap _ ?_
  walk_at "go"
  refine need_of (gV hN) ?_
  walk_at "go"
  refine need_of (gV hN) ?_
  walk_at "go"
  refine ⟨by simp, by simp; omega, ?_⟩
  refine need_of lastIdx ?_
  walk_at "go"
  refine need_of (gK hN) ?_
  refine ⟨hk, by omega, trivial, ?_⟩
  have := q (some (cF a))
  rw [← sK hN (kn := kn)] at this
  walk_at "go"
  exact this

end
end Mine
end

section
open PySem Mine
set_option Elab.async false
set_option maxRecDepth 100000
set_option linter.unusedVariables false
set_option maxHeartbeats 8000000

namespace Mine
local macro_rules | `(tactic| walk_at "go") => `(tactic| ((conv => whnf); (repeat (refine ⟨by first | decide | exact Nat.le_of_ble_eq_true rfl | decide +kernel | exact trivial | exact rfl, ?_⟩; (conv => whnf)))))

section
variable {n n' k m m1 m2 a r l p q x y : Nat}
theorem z1 (h : n + (m + 1) ≤ n') : ∃ k, n' = k + 1 := ⟨n' - 1, by omega⟩
theorem z2 (h : a + m ≤ 90000) : a < 100000 := by omega
theorem z3 (h : n + (m + 1) ≤ k + 1) : n ≤ k := by omega
theorem z5 (h : n + (m + 2) ≤ k + 1) : n + 1 + m ≤ k := by omega
theorem z6 (h1 : p ≤ l + 1) (h2 : l + (m + 2) ≤ 90000) : p + m ≤ 90000 := by omega
theorem z7 (h : r + (m + 2) ≤ 90000) : r + 1 + m ≤ 90000 := by omega
theorem z8 (h : r + (m + 2) ≤ 90000) : r + m ≤ 90000 := by omega
theorem z9 (h : a + k < 100000) : a < 100000 := by omega
theorem z10 (h1 : q ≤ p + m) (h2 : p ≤ l + 1) (h3 : l + (m + 2) ≤ 90000) : q < 100000 := by omega
theorem z11 (h0 : x ≤ q + 1) (h1 : q ≤ p + m) (h2 : p ≤ l + 1) : x ≤ l + (m + 2) := by omega
theorem z12 (h : n + (m1 + m2 + 2) ≤ k + 1) : n + 1 + m2 + m1 ≤ k := by omega
theorem z13 (h1 : p ≤ l + 1) (h2 : l + (m1 + m2 + 2) ≤ 90000) : p + m1 ≤ 90000 := by omega
theorem z14 (h : r + (m1 + m2 + 2) ≤ 90000) : r + 1 + 1 + m1 ≤ 90000 := by omega
theorem z15 (h : r + (m1 + m2 + 2) ≤ 90000) : r + m1 ≤ 90000 := by omega
theorem z16 (h1 : q ≤ p + m1) (h2 : p ≤ l + 1) (h3 : l + (m1 + m2 + 2) ≤ 90000) : q + m2 ≤ 90000 := by omega
theorem z17 (h : r + (m1 + m2 + 2) ≤ 90000) : r + 1 + m2 ≤ 90000 := by omega
theorem z19 (h0 : y ≤ q + m2) (h1 : q ≤ p + m1) (h2 : p ≤ l + 1) (h3 : l + (m1 + m2 + 2) ≤ 90000) : y < 100000 := by omega
theorem z20 (h : x ≤ y + 1) (h0 : y ≤ q + m2) (h1 : q ≤ p + m1) (h2 : p ≤ l + 1) : x ≤ l + (m1 + m2 + 2) := by omega
end

section
variable {G : Orc} {s : Sy} {p : MO} {h xl : List MV} {J : List MO} {N : Nat} {K : Fl → S → Prop} {c0 : Option MV} {rk : Nat → Nat}

noncomputable abbrev WE (G : Orc) (n : Nat) (σ : S) (K : Fl → S → Prop) : Prop := whileN (evT (up (up (up G))) tab condE) (evSs (up (up (up G))) tab bodyE) n σ K

theorem stepE {c : MV} {R vs : List MV} {kn : List (Key × MV)} {l7 l8 l9 : Option MV} {n : Nat} (hN : N = 11 + J.length)
    (hB : evSs (up (up (up G))) tab bodyE ⟨LE c0 N l7 l8 l9, OE s p h xl J kn (R ++ [c]) vs⟩ (fun f σ => match f with
      | .next => WE G n σ K
      | .cont => WE G n σ K
      | .brk => K .next σ
      | .ret v => K (.ret v) σ)) : WE G (n + 1) ⟨LE c0 N l7 l8 l9, OE s p h xl J kn (R ++ [c]) vs⟩ K := by
  generalize hU : up (up (up G)) = U at *
  unfold WE
  rw [hU]
  show evT U tab condE _ _
  walk_at "go"
  refine need_of (gT hN) ?_
  have e : (!(R ++ [c]).isEmpty) = true := by cases R <;> rfl
  show brch (!(R ++ [c]).isEmpty) _ _
  rw [e]
  unfold WE at hB
  rw [hU] at hB
  exact hB

theorem run_ok (S : SyOk s) (hN : N = 11 + J.length) {c : MV} {v : Int} {m : Nat} (E : Ev rk h c v m) : ∀ (n n' : Nat) (R vs : List MV) (kn : List (Key × MV)) (l7 l8 l9 : Option MV), n + m ≤ n' → KnOk rk h kn →
    (∀ a : Nat, getK (.ki a) kn = some .none → ∀ s', c = cS s' → rk a < rk s') → kn.length + m ≤ 90000 → R.length + m ≤ 90000 → vs.length + m ≤ 90000 →
    (∀ n' kn' l7 l8 l9, n ≤ n' → KnOk rk h kn' → (∀ a : Nat, getK (.ki a) kn' = some .none → getK (.ki a) kn = some .none) → kn'.length ≤ kn.length + m → WE G n' ⟨LE c0 N l7 l8 l9, OE s p h xl J kn' R (vs ++ [.int v])⟩ K) →
    WE G n' ⟨LE c0 N l7 l8 l9, OE s p h xl J kn (R ++ [c]) vs⟩ K := by
  induction E with
  | int =>
    intro n n' R vs kn l7 l8 l9 hn hk hb hl1 hl2 hl3 q
    obtain ⟨n'', rfl⟩ := z1 hn
    exact stepE hN (e_int hN (z2 hl3) fun l7 => q n'' kn l7 l8 l9 (z3 hn) hk (fun _ h => h) (Nat.le_add_right _ _))
  | ref h1 h2 =>
    intro n n' R vs kn l7 l8 l9 hn hk hb hl1 hl2 hl3 q
    obtain ⟨n'', rfl⟩ := z1 hn
    exact stepE hN (e_ref h1 h2 hN (z2 hl3) fun l7 => q n'' kn l7 l8 l9 (z3 hn) hk (fun _ h => h) (Nat.le_add_right _ _))
  | un b1 b2 b3 b4 b5 b6 ih =>
    rename_i a ca v m
    intro n n' R vs kn l7 l8 l9 hn hk hb hl1 hl2 hl3 q
    obtain ⟨n'', rfl⟩ := z1 hn
    have EE : Ev rk h (cS a) (-v) (m + 2) := .un b1 b2 b3 b4 b5 b6
    cases hg : getK (.ki (a : Int)) kn with
    | some x =>
      rcases hk.val a x hg with rfl | ⟨v', m', rfl, E'⟩
      · exact absurd (hb a hg a rfl) (Nat.lt_irrefl _)
      · obtain rfl := ev_one EE E' rfl
        exact stepE hN (e_known (kin_i_any hk.kin) hg hN (z2 hl3) fun l7 => q n'' kn l7 l8 l9 (z3 hn) hk (fun _ h => h) (Nat.le_add_right _ _))
    | none =>
      refine stepE hN (e_un S (kin_i_any hk.kin) hg (z2 hl1) (z2 hl2) hN b1 b2 b3 fun l7 l8 l9 => ?_)
      have hlen1 := putK_len (q := .ki (a : Int)) (x := MV.none) kn
      refine ih (n + 1) n'' (R ++ [cF a]) vs _ l7 l8 l9 (z5 hn) (kn_none hk a) (fun b hb' s' e => ?_) (z6 hlen1 hl1) (by rw [List.length_append]; exact z7 hl2) (z8 hl3) fun n3 kn3 l7 l8 l9 hn3 hk3 hs3 hl3' => ?_
      · rw [getK_put] at hb'
        split at hb'
        · rename_i e2
          have : a = b := by injection e2 with e2; omega
          subst this
          exact b4 s' e
        · exact Nat.lt_trans (hb b hb' a rfl) (b4 s' e)
      · obtain ⟨n4, rfl⟩ := z1 (m := 0) hn3
        have hlen2 := putK_len (q := .ki (a : Int)) (x := MV.int (-v)) kn3
        refine stepE hN (e_fun (n := 12) (V := vs) (w := -v) (z9 b1) b2 (kin_i_any hk3.kin) (z10 hl3' hlen1 hl1) (z2 hl3) hN (fun k q => apf_un S hN b6 (z2 hl3) q) fun l7 => ?_)
        refine q n4 _ l7 l8 l9 (Nat.le_of_succ_le_succ hn3) (kn_int hk3 EE) (fun b hb' => ?_) (z11 hlen2 hl3' hlen1)
        rw [getK_put] at hb'
        split at hb'
        · cases hb'
        · rename_i hne
          have := hs3 b hb'
          rw [getK_put, if_neg hne] at this
          exact this
  | bin b1 b2 b3 b4 b5 b6 b7 b8 b9 b10 b11 b12 ih1 ih2 =>
    rename_i a nf cx cy x y m1 m2
    intro n n' R vs kn l7 l8 l9 hn hk hb hl1 hl2 hl3 q
    obtain ⟨n'', rfl⟩ := z1 hn
    have EE : Ev rk h (cS a) (opI nf x y) (m1 + m2 + 2) := .bin b1 b2 b3 b4 b5 b6 b7 b8 b9 b10 b11 b12
    have hF : ∃ fa, s.F[nf]? = some (.tup [.int fa, .int 2]) := by
      rcases b2 with rfl | rfl | rfl
      · exact ⟨_, S.f14⟩
      · exact ⟨_, S.f13⟩
      · exact ⟨_, S.f32⟩
    obtain ⟨fa, hF⟩ := hF
    cases hg : getK (.ki (a : Int)) kn with
    | some z =>
      rcases hk.val a z hg with rfl | ⟨v', m', rfl, E'⟩
      · exact absurd (hb a hg a rfl) (Nat.lt_irrefl _)
      · have := ev_one EE E' rfl
        rw [this] at q
        exact stepE hN (e_known (kin_i_any hk.kin) hg hN (z2 hl3) fun l7 => q n'' kn l7 l8 l9 (z3 hn) hk (fun _ h => h) (Nat.le_add_right _ _))
    | none =>
      refine stepE hN (e_bin b2 hF S (kin_i_any hk.kin) hg (z2 hl1) (z2 hl2) hN b1 b3 b4 b5 fun l7 l8 l9 => ?_)
      have hlen1 := putK_len (q := .ki (a : Int)) (x := MV.none) kn
      have none1 : ∀ b : Nat, getK (.ki b) (putK (.ki (a : Int)) .none kn) = some .none → ∀ s', rk a < rk s' → rk b < rk s' := fun b hb' s' e => by
        rw [getK_put] at hb'
        split at hb'
        · rename_i e2
          have : a = b := by injection e2 with e2; omega
          subst this
          exact e
        · exact Nat.lt_trans (hb b hb' a rfl) e
      refine ih1 (n + 1 + m2) n'' ((R ++ [cF a]) ++ [cy]) vs _ l7 l8 l9 (z12 hn) (kn_none hk a) (fun b hb' s' e => none1 b hb' s' (b6 s' e)) (z13 hlen1 hl1) (by rw [List.length_append, List.length_append]; exact z14 hl2) (z15 hl3) fun n3 kn3 l7 l8 l9 hn3 hk3 hs3 hl3' => ?_
      refine ih2 (n + 1) n3 (R ++ [cF a]) (vs ++ [.int x]) kn3 l7 l8 l9 hn3 hk3 (fun b hb' s' e => none1 b (hs3 b hb') s' (b7 s' e)) (z16 hl3' hlen1 hl1) (by rw [List.length_append]; exact z17 hl2) (by rw [List.length_append]; exact z17 hl3) fun n4 kn4 l7 l8 l9 hn4 hk4 hs4 hl4' => ?_
      obtain ⟨n5, rfl⟩ := z1 (m := 0) hn4
      have hlen2 := putK_len (q := .ki (a : Int)) (x := MV.int (opI nf x y)) kn4
      have e0 : (vs ++ [MV.int x]) ++ [MV.int y] = vs ++ [MV.int x, MV.int y] := by simp
      rw [e0]
      refine stepE hN (e_fun (n := nf) (V := vs) (w := opI nf x y) (z9 b1) b3 (kin_i_any hk4.kin) (z19 hl4' hl3' hlen1 hl1) (z2 hl3) hN (fun k q => apf_bin b2 S hN b10 b11 b12 (z2 hl3) q) fun l7 => ?_)
      refine q n5 _ l7 l8 l9 (Nat.le_of_succ_le_succ hn4) (kn_int hk4 EE) (fun b hb' => ?_) (z20 hlen2 hl4' hl3' hlen1)
      rw [getK_put] at hb'
      split at hb'
      · cases hb'
      · rename_i hne
        have := hs3 b (hs4 b hb')
        rw [getK_put, if_neg hne] at this
        exact this

end
end Mine
end

section
open PySem Mine
set_option Elab.async false
set_option maxRecDepth 100000
set_option linter.unusedVariables false
set_option maxHeartbeats 8000000

namespace Mine
local macro_rules | `(tactic| walk_at "go") => `(tactic| ((conv => whnf); (repeat (refine ⟨by first | decide | exact Nat.le_of_ble_eq_true rfl | decide +kernel | exact trivial | exact rfl, ?_⟩; (conv => whnf)))))

section
variable {G : Orc} {s : Sy} {p : MO} {h xl : List MV} {J : List MO} {N : Nat} {k : MV → List MO → Prop} {K : Fl → S → Prop} {c0 : Option MV} {rk : Nat → Nat}

theorem endE {vs : List MV} {kn : List (Key × MV)} {l7 l8 l9 : Option MV} {n : Nat} (hN : N = 11 + J.length) (q : K .next ⟨LE c0 N l7 l8 l9, OE s p h xl J kn [] vs⟩) : WE G (n + 1) ⟨LE c0 N l7 l8 l9, OE s p h xl J kn [] vs⟩ K := by
  generalize hU : up (up (up G)) = U at *
  unfold WE
  rw [hU]
  show evT U tab condE _ _
  walk_at "go"
  refine need_of (gT hN) ?_
  exact q

theorem eval_ok {c : MV} {v : Int} {m : Nat} (S : SyOk s) (E : Ev rk h c v m) (hm : m ≤ 80000) (q : ∀ J', k (.int v) (Om s p h xl J')) : up (up (up (up G))) 546 [.own 6, c] (Om s p h xl J) k := by
  obtain ⟨N, hNd⟩ : ∃ N, N = (Om s p h xl J).length := ⟨_, rfl⟩
  have hN : N = 11 + J.length := hNd.trans om_len
  have e1 : (Om s p h xl (J ++ [.dict []])).length = N + 1 := by rw [om_len, hN]; simp; omega
  have e2 : (Om s p h xl (J ++ [.dict [], .list [c]])).length = N + 2 := by rw [om_len, hN]; simp; omega
  conv => whnf
  refine ⟨Nat.le_of_ble_eq_true rfl, Nat.le_of_ble_eq_true rfl, ?_⟩
  show evSs _ _ (.cons _ (.cons _ (.cons .. ))) ⟨[some (.own 6), some c, none, none, none, none, none, none, none, none], Om s p h xl J⟩ _
  refine cut (σ' := ⟨[some (.own 6), some c, some (.own 7), none, none, none, none, none, none, none], Om s p h xl J⟩) (fun K hK => by walk_at "go"; exact hK) ?_
  refine cut (σ' := ⟨[some (.own 6), some c, some (.own 7), some (.own 1), none, none, none, none, none, none], Om s p h xl J⟩) (fun K hK => by walk_at "go"; exact hK) ?_
  refine cut (σ' := ⟨[some (.own 6), some c, some (.own 7), some (.own 1), some (.own N), none, none, none, none, none], Om s p h xl (J ++ [.dict []])⟩) (fun K hK => by subst hNd; walk_at "go"; exact hK) ?_
  refine cut (σ' := ⟨[some (.own 6), some c, some (.own 7), some (.own 1), some (.own N), some (.own (N + 1)), none, none, none, none], Om s p h xl ((J ++ [.dict []]) ++ [.list [c]])⟩) (fun K hK => by rw [← e1] at hK; walk_at "go"; exact hK) ?_
  rw [show (J ++ [MO.dict []]) ++ [MO.list [c]] = J ++ [.dict [], .list [c]] by simp]
  refine cut (σ' := ⟨LE (some c) N none none none, Om s p h xl ((J ++ [.dict [], .list [c]]) ++ [.list []])⟩) (fun K hK => by unfold LE at hK; rw [← e2] at hK; walk_at "go"; exact hK) ?_
  rw [show (J ++ [MO.dict [], MO.list [c]]) ++ [MO.list []] = J ++ [.dict [], .list [c], .list []] by simp]
  show ∃ n, WE G n ⟨LE (some c) N none none none, OE s p h xl J [] ([] ++ [c]) []⟩ _
  refine ⟨1 + m, ?_⟩
  refine run_ok S hN E 1 (1 + m) [] [] [] none none none (Nat.le_refl _) ⟨rfl, fun a x e => (nomatch e)⟩ (fun a e => (nomatch e)) (by simp; omega) (by simp; omega) (by simp; omega) fun n' kn' l7 l8 l9 hn _ _ _ => ?_
  obtain ⟨n'', rfl⟩ : ∃ k, n' = k + 1 := ⟨n' - 1, by omega⟩
  refine endE hN ?_
  walk_at "go"
  refine need_of (gV hN) ?_
  walk_at "go"
  exact q _

end
end Mine
end

section
open PySem Mine
set_option Elab.async false
set_option maxRecDepth 100000
set_option linter.unusedVariables false
set_option maxHeartbeats 8000000

namespace Mine
local macro_rules | `(tactic| walk_at "go") => `(tactic| ((conv => whnf); (repeat (refine ⟨by first | decide | exact Nat.le_of_ble_eq_true rfl | decide +kernel | exact trivial | exact rfl, ?_⟩; (conv => whnf)))))

noncomputable def em : Tr → Nat
  | .v _ => 1
  | .i _ => 1
  | .u a => em a + 2
  | .b _ x y => em x + em y + 2
theorem em_le : ∀ t, em t ≤ 2 * sz t
  | .v _ => by show 1 ≤ 2 * 1; decide
  | .i _ => by show 1 ≤ 2 * 1; decide
  | .u a => by have := em_le a; show em a + 2 ≤ 2 * (sz a + 1); omega
  | .b _ x y => by have := em_le x; have := em_le y; show em x + em y + 2 ≤ 2 * (sz x + sz y + 1); omega

structure Nums (h : List MV) (a b c : Int) : Prop where
  n0 : h[0]? = some (cI a)
  n1 : h[1]? = some (cI b)
  n2 : h[2]? = some (cI c)

theorem rd_lt {h : List MV} : ∀ {t : Tr} {s' : Nat}, Rd h t (cS s') → s' < h.length
  | .v i, s', r => by
    have r : cS s' = cR i := r
    exact (cR_cS r.symm).elim
  | .i z, s', r => by
    have r : cS s' = cI z := r
    exact (cI_cS r.symm).elim
  | .u a, s', r => by
    obtain ⟨s, ca, e, r1, _⟩ := r
    obtain rfl := cS_inj e
    omega
  | .b f x y, s', r => by
    obtain ⟨s, cx, cy, e, r1, _⟩ := r
    obtain rfl := cS_inj e
    omega

theorem rd_ev {rk : Nat → Nat} {h : List MV} (hr : ∀ a b, a < b → b < h.length → rk a < rk b) {a b c : Int} {B : Nat} (hn : Nums h a b c) (hl : h.length ≤ 100000) (hν : ∀ i, (nus a b c i).natAbs ≤ B) (h67 : 2 ^ 67 ≤ B) : ∀ (t : Tr) (e : MV), Wf t → nm B t < 2 ^ 4000 → Rd h t e → Ev rk h e (val (nus a b c) t) (em t)
  | .v i, e, w, _, r => by
    have w : i < 3 := w
    have r : e = cR i := r
    subst r
    rcases (by omega : i = 0 ∨ i = 1 ∨ i = 2) with rfl | rfl | rfl
    · exact .ref hn.n0 (by decide)
    · exact .ref hn.n1 (by decide)
    · exact .ref hn.n2 (by decide)
  | .i z, e, _, _, r => by
    have r : e = cI z := r
    subst r; exact .int
  | .u t, e, w, hb, r => by
    obtain ⟨s, ca, rfl, r1, r2, r3, r4, r5⟩ := r
    have w : Wf t := w
    have hb' : nm B t < 2 ^ 4000 := hb
    have v := val_le hν h67 t w
    exact .un (by omega) r2 r3 (fun s' e => hr _ _ (r4 s' e) (rd_lt (e ▸ r5))) (rd_ev hr hn hl hν h67 t ca w hb' r5) (by rw [Int.natAbs_neg]; exact Nat.lt_of_le_of_lt v hb')
  | .b f x y, e, ⟨wf, wx, wy⟩, hb, r => by
    obtain ⟨s, cx, cy, rfl, r1, r2, r3, r4, r5, r6, r7, r8⟩ := r
    have hB : 1 ≤ B := Nat.le_trans (by decide) h67
    have bx := Nat.lt_of_le_of_lt (nm_left hB f x y) hb
    have by' := Nat.lt_of_le_of_lt (nm_right hB f x y) hb
    have vx := Nat.lt_of_le_of_lt (val_le hν h67 x wx) bx
    have vy := Nat.lt_of_le_of_lt (val_le hν h67 y wy) by'
    have vv := Nat.lt_of_le_of_lt (val_le hν h67 (.b f x y) ⟨wf, wx, wy⟩) hb
    have ex := rd_ev hr hn hl hν h67 x cx wx bx r7
    have ey := rd_ev hr hn hl hν h67 y cy wy by' r8
    rcases wf with rfl | rfl | rfl
    · exact Ev.bin (n := 14) (by omega) (.inl rfl) r2 r3 r4 (fun s' e => hr _ _ (r5 s' e) (rd_lt (e ▸ r7))) (fun s' e => hr _ _ (r6 s' e) (rd_lt (e ▸ r8))) ex ey vx vy vv
    · exact Ev.bin (n := 13) (by omega) (.inr (.inl rfl)) r2 r3 r4 (fun s' e => hr _ _ (r5 s' e) (rd_lt (e ▸ r7))) (fun s' e => hr _ _ (r6 s' e) (rd_lt (e ▸ r8))) ex ey vx vy vv
    · exact Ev.bin (n := 32) (by omega) (.inr (.inr rfl)) r2 r3 r4 (fun s' e => hr _ _ (r5 s' e) (rd_lt (e ▸ r7))) (fun s' e => hr _ _ (r6 s' e) (rd_lt (e ▸ r8))) ex ey vx vy vv

/-- what a cell looks like when it has been followed -/
theorem dr_ev {rk : Nat → Nat} {h : List MV} {e : MV} {v : Int} {m : Nat} (E : Ev rk h e v m) : ∃ d, Dr h e d ∧ Ev rk h d v m := by
  cases E with
  | int => exact ⟨_, .I, .int⟩
  | ref h1 h2 => exact ⟨_, .R h1 h2, .int⟩
  | un b1 b2 b3 b4 b5 b6 => exact ⟨_, .S, .un b1 b2 b3 b4 b5 b6⟩
  | bin b1 b2 b3 b4 b5 b6 b7 b8 b9 b10 b11 b12 => exact ⟨_, .S, .bin b1 b2 b3 b4 b5 b6 b7 b8 b9 b10 b11 b12⟩

section
variable {G : Orc} {s : Sy} {p : MO} {h : List MV} {J : List MO} {k : MV → List MO → Prop} {a1 c1 c2 : MV} {rk : Nat → Nat}

theorem arg1_ok {d : MV} (hd : Dr h c1 d) (q : k d (Om s p h [a1, c1, c2] J)) : up (up (up G)) 631 [.own 6, .int 1] (Om s p h [a1, c1, c2] J) k := by
  generalize hU : up (up G) = U
  walk_at "go"
  subst hU
  refine glob_ok hd ?_
  walk_at "go"
  exact q
theorem arg2_ok {d : MV} (hd : Dr h c2 d) (q : k d (Om s p h [a1, c1, c2] J)) : up (up (up G)) 631 [.own 6, .int 2] (Om s p h [a1, c1, c2] J) k := by
  generalize hU : up (up G) = U
  walk_at "go"
  subst hU
  refine glob_ok hd ?_
  walk_at "go"
  exact q

theorem eq_ok {x y : Int} {m1 m2 : Nat} (S : SyOk s) (E1 : Ev rk h c1 x m1) (E2 : Ev rk h c2 y m2) (l1 : m1 ≤ 80000) (l2 : m2 ≤ 80000) (q : ∀ J', k (.bool (x == y)) (Om s p h [a1, c1, c2] J')) : up (up (up (up (up G)))) 553 [.own 6] (Om s p h [a1, c1, c2] J) k := by
  obtain ⟨d1, D1, F1⟩ := dr_ev E1
  obtain ⟨d2, D2, F2⟩ := dr_ev E2
  generalize hU : up (up (up (up G))) = U
  walk_at "go"
  subst hU
  refine arg1_ok D1 ?_
  generalize hU : up (up (up (up G))) = U
  walk_at "go"
  subst hU
  refine eval_ok S F1 l1 fun J1 => ?_
  generalize hU : up (up (up (up G))) = U
  walk_at "go"
  subst hU
  refine arg2_ok D2 ?_
  generalize hU : up (up (up (up G))) = U
  walk_at "go"
  subst hU
  refine eval_ok S F2 l2 fun J2 => ?_
  walk_at "go"
  exact q J2

theorem ne_ok {x y : Int} {m1 m2 : Nat} (S : SyOk s) (E1 : Ev rk h c1 x m1) (E2 : Ev rk h c2 y m2) (l1 : m1 ≤ 80000) (l2 : m2 ≤ 80000) (q : ∀ J', k (.bool (x != y)) (Om s p h [a1, c1, c2] J')) : up (up (up (up (up G)))) 560 [.own 6] (Om s p h [a1, c1, c2] J) k := by
  obtain ⟨d1, D1, F1⟩ := dr_ev E1
  obtain ⟨d2, D2, F2⟩ := dr_ev E2
  generalize hU : up (up (up (up G))) = U
  walk_at "go"
  subst hU
  refine arg1_ok D1 ?_
  generalize hU : up (up (up (up G))) = U
  walk_at "go"
  subst hU
  refine eval_ok S F1 l1 fun J1 => ?_
  generalize hU : up (up (up (up G))) = U
  walk_at "go"
  subst hU
  refine arg2_ok D2 ?_
  generalize hU : up (up (up (up G))) = U
  walk_at "go"
  subst hU
  refine eval_ok S F2 l2 fun J2 => ?_
  walk_at "go"
  exact q J2

theorem lt_ok {x y : Int} {m1 m2 : Nat} (S : SyOk s) (E1 : Ev rk h c1 x m1) (E2 : Ev rk h c2 y m2) (l1 : m1 ≤ 80000) (l2 : m2 ≤ 80000) (q : ∀ J', k (.bool (decide (x < y))) (Om s p h [a1, c1, c2] J')) : up (up (up (up (up G)))) 567 [.own 6] (Om s p h [a1, c1, c2] J) k := by
  obtain ⟨d1, D1, F1⟩ := dr_ev E1
  obtain ⟨d2, D2, F2⟩ := dr_ev E2
  generalize hU : up (up (up (up G))) = U
  walk_at "go"
  subst hU
  refine arg1_ok D1 ?_
  generalize hU : up (up (up (up G))) = U
  walk_at "go"
  subst hU
  refine eval_ok S F1 l1 fun J1 => ?_
  generalize hU : up (up (up (up G))) = U
  walk_at "go"
  subst hU
  refine arg2_ok D2 ?_
  generalize hU : up (up (up (up G))) = U
  walk_at "go"
  subst hU
  refine eval_ok S F2 l2 fun J2 => ?_
  walk_at "go"
  exact q J2

theorem gt_ok {x y : Int} {m1 m2 : Nat} (S : SyOk s) (E1 : Ev rk h c1 x m1) (E2 : Ev rk h c2 y m2) (l1 : m1 ≤ 80000) (l2 : m2 ≤ 80000) (q : ∀ J', k (.bool (decide (x > y))) (Om s p h [a1, c1, c2] J')) : up (up (up (up (up G)))) 574 [.own 6] (Om s p h [a1, c1, c2] J) k := by
  obtain ⟨d1, D1, F1⟩ := dr_ev E1
  obtain ⟨d2, D2, F2⟩ := dr_ev E2
  generalize hU : up (up (up (up G))) = U
  walk_at "go"
  subst hU
  refine arg1_ok D1 ?_
  generalize hU : up (up (up (up G))) = U
  walk_at "go"
  subst hU
  refine eval_ok S F1 l1 fun J1 => ?_
  generalize hU : up (up (up (up G))) = U
  walk_at "go"
  subst hU
  refine arg2_ok D2 ?_
  generalize hU : up (up (up (up G))) = U
  walk_at "go"
  subst hU
  refine eval_ok S F2 l2 fun J2 => ?_
  walk_at "go"
  exact q J2

theorem le_ok {x y : Int} {m1 m2 : Nat} (S : SyOk s) (E1 : Ev rk h c1 x m1) (E2 : Ev rk h c2 y m2) (l1 : m1 ≤ 80000) (l2 : m2 ≤ 80000) (q : ∀ J', k (.bool (decide (x ≤ y))) (Om s p h [a1, c1, c2] J')) : up (up (up (up (up G)))) 581 [.own 6] (Om s p h [a1, c1, c2] J) k := by
  obtain ⟨d1, D1, F1⟩ := dr_ev E1
  obtain ⟨d2, D2, F2⟩ := dr_ev E2
  generalize hU : up (up (up (up G))) = U
  walk_at "go"
  subst hU
  refine arg1_ok D1 ?_
  generalize hU : up (up (up (up G))) = U
  walk_at "go"
  subst hU
  refine eval_ok S F1 l1 fun J1 => ?_
  generalize hU : up (up (up (up G))) = U
  walk_at "go"
  subst hU
  refine arg2_ok D2 ?_
  generalize hU : up (up (up (up G))) = U
  walk_at "go"
  subst hU
  refine eval_ok S F2 l2 fun J2 => ?_
  walk_at "go"
  exact q J2

theorem ge_ok {x y : Int} {m1 m2 : Nat} (S : SyOk s) (E1 : Ev rk h c1 x m1) (E2 : Ev rk h c2 y m2) (l1 : m1 ≤ 80000) (l2 : m2 ≤ 80000) (q : ∀ J', k (.bool (decide (x ≥ y))) (Om s p h [a1, c1, c2] J')) : up (up (up (up (up G)))) 588 [.own 6] (Om s p h [a1, c1, c2] J) k := by
  obtain ⟨d1, D1, F1⟩ := dr_ev E1
  obtain ⟨d2, D2, F2⟩ := dr_ev E2
  generalize hU : up (up (up (up G))) = U
  walk_at "go"
  subst hU
  refine arg1_ok D1 ?_
  generalize hU : up (up (up (up G))) = U
  walk_at "go"
  subst hU
  refine eval_ok S F1 l1 fun J1 => ?_
  generalize hU : up (up (up (up G))) = U
  walk_at "go"
  subst hU
  refine arg2_ok D2 ?_
  generalize hU : up (up (up (up G))) = U
  walk_at "go"
  subst hU
  refine eval_ok S F2 l2 fun J2 => ?_
  walk_at "go"
  exact q J2

end
end Mine
end

section
open PySem Mine
set_option Elab.async false
set_option maxRecDepth 100000
set_option linter.unusedVariables false
set_option maxHeartbeats 8000000

namespace Mine
local macro_rules | `(tactic| walk_at "go") => `(tactic| ((conv => whnf); (repeat (refine ⟨by first | decide | exact Nat.le_of_ble_eq_true rfl | decide +kernel | exact trivial | exact rfl, ?_⟩; (conv => whnf)))))

noncomputable def vo : MV := .tup [.int 5, .int 0]

section
variable {G : Orc} {s : Sy} {p : MO} {h : List MV} {J : List MO} {k : MV → List MO → Prop} {a1 a2 a3 c c1 c2 : MV}

theorem setx1_new (q : k .none (Om s p h [a1, c] J)) : up G 617 [.own 6, .int 1, c] (Om s p h [a1] J) k := by
  walk_at "go"
  refine ⟨2, ?_⟩
  walk_at "go"
  exact q
theorem setx2_new (q : k .none (Om s p h [a1, a2, c] J)) : up G 617 [.own 6, .int 2, c] (Om s p h [a1, a2] J) k := by
  walk_at "go"
  refine ⟨2, ?_⟩
  walk_at "go"
  exact q
theorem setx1 (q : k .none (Om s p h [a1, c, a3] J)) : up G 617 [.own 6, .int 1, c] (Om s p h [a1, a2, a3] J) k := by
  walk_at "go"
  refine ⟨1, ?_⟩
  walk_at "go"
  exact q
theorem setx2 (q : k .none (Om s p h [a1, a2, c] J)) : up G 617 [.own 6, .int 2, c] (Om s p h [a1, a2, a3] J) k := by
  walk_at "go"
  refine ⟨1, ?_⟩
  walk_at "go"
  exact q

theorem args_new (q : k .none (Om s p h [a1, c1, c2] J)) : up (up G) 624 [.own 6, .flist [c1, c2]] (Om s p h [a1] J) k := by
  generalize hU : up G = U
  walk_at "go"
  subst hU
  refine setx1_new ?_
  generalize hU : up G = U
  walk_at "go"
  subst hU
  refine setx2_new ?_
  walk_at "go"
  exact q
theorem args_ok (q : k .none (Om s p h [a1, c1, c2] J)) : up (up G) 624 [.own 6, .flist [c1, c2]] (Om s p h [a1, a2, a3] J) k := by
  generalize hU : up G = U
  walk_at "go"
  subst hU
  refine setx1 ?_
  generalize hU : up G = U
  walk_at "go"
  subst hU
  refine setx2 ?_
  walk_at "go"
  exact q
end
end Mine
end

section
open PySem Mine
set_option Elab.async false
set_option maxRecDepth 100000
set_option linter.unusedVariables false
set_option maxHeartbeats 8000000

namespace Mine
local macro_rules | `(tactic| walk_at "go") => `(tactic| ((conv => whnf); (repeat (refine ⟨by first | decide | exact Nat.le_of_ble_eq_true rfl | decide +kernel | exact trivial | exact rfl, ?_⟩; (conv => whnf)))))

theorem sz_sm : ∀ t, sz t ≤ sm t
  | .v _ => by show 1 ≤ 5; decide
  | .i _ => by show 1 ≤ 5; decide
  | .u a => by have := sz_sm a; show sz a + 1 ≤ sm a + 2; omega
  | .b _ x y => by have := sz_sm x; have := sz_sm y; show sz x + sz y + 1 ≤ 2 * sm x + sm y + 3; omega

noncomputable def tup2 (o : Option MV) (a b : Int) : Bool := match o with
  | some (.tup [.int x, .int y]) => decide (x = a) && decide (y = b)
  | _ => false
theorem tup2_of {o : Option MV} {a b : Int} (h : tup2 o a b = true) : o = some (.tup [.int a, .int b]) := by
  unfold tup2 at h
  split at h
  · rw [Bool.and_eq_true, decide_eq_true_eq, decide_eq_true_eq] at h
    rw [h.1, h.2]
  · cases h
noncomputable def str1 (o : Option MV) (a : Str) : Bool := match o with
  | some (.str x) => decide (x = a)
  | _ => false
theorem str1_of {o : Option MV} {a : Str} (h : str1 o a = true) : o = some (.str a) := by
  unfold str1 at h
  split at h
  · rw [of_decide_eq_true h]
  · cases h

theorem sy3_ok : SyOk sy3 where
  f12 := tup2_of (by decide +kernel)
  f13 := tup2_of (by decide +kernel)
  f14 := tup2_of (by decide +kernel)
  f32 := tup2_of (by decide +kernel)
  t3 := str1_of (by decide +kernel)
  t4 := str1_of (by decide +kernel)
  t5 := str1_of (by decide +kernel)

/-- all that the law calls -/
structure Lib (U : Orc) : Prop where
  draw : DrawC U
  sym : ∀ (p : MO) (k : MV → List MO → Prop), k .none (symS p sy2 []) → U 81 [.own 1] (p :: .inst 154 [] :: []) k
  times : ∀ (p : MO) (k : MV → List MO → Prop), k (.int 32) (symS p sy3 []) → U 109 [.own 1, .str (Str.ofString "*"), .int 2] (symS p sy2 []) k
  tree : TreeC U 4
  other : ∀ t, sz t ≤ 70 → Wf t → OtherC U t
  value : ∀ (a b c : Int) (B : Nat) (t : Tr), (∀ i, (nus a b c i).natAbs ≤ B) → 2 ^ 67 ≤ B → sz t ≤ 70 → Wf t → nm B t < 2 ^ 30000 → ValueC U a b c t
  areas : ∀ (s : Sy) (p : MO) (k : MV → List MO → Prop), k .none (Om s p [] [.tup [.int 5, .int 0]] []) → U 603 [.own 6, .own 1, .flist []] (symS p s [.inst 746 []]) k
  newvar : ∀ (s : Sy) (p : MO) (h xl : List MV) (J : List MO) (k : MV → List MO → Prop), h.length < 100000 → k (cR h.length) (Om s p (h ++ [cR h.length]) xl J) → U 251 [.own 7] (Om s p h xl J) k
  bind : ∀ (s : Sy) (p : MO) (h xl : List MV) (J : List MO) (k : MV → List MO → Prop) (a : Nat) (c : MV), a < h.length → h.length ≤ 100000 → k .none (Om s p (h.set a c) xl J) → U 286 [.own 7, cR a, c] (Om s p h xl J) k
  put : ∀ (s : Sy) (p : MO) (h xl : List MV) (J : List MO) (k : MV → List MO → Prop) (t : Tr), SyOk s → Wf t → h.length + 3 * sz t ≤ 100000 → sz t ≤ 10000 → (∀ h' c J', Put h t h' c → k c (Om s p h' xl (.dict tb3 :: J'))) → U 406 [.own 7, enc t, .own 11] (Om s p h xl (.dict tb3 :: J)) k
  gap : ∀ (s : Sy) (p : MO) (h xl : List MV) (J : List MO) (k : MV → List MO → Prop) (z : Int), (∀ J', k (cI z) (Om s p h xl J')) → U 652 [.own 6, enc (.i z)] (Om s p h xl J) k
  struct : ∀ (s : Sy) (p : MO) (h xl : List MV) (J : List MO) (k : MV → List MO → Prop) (c1 c2 d1 d2 : MV), SyOk s → Dr h c1 d1 → Dr h c2 d2 → h.length + 3 ≤ 100000 → (∀ J', k (cS h.length) (Om s p (h ++ [cF 14, d1, d2]) xl J')) → U 384 [.own 7, .int 14, .flist [c1, c2]] (Om s p h xl J) k
  args0 : ∀ (s : Sy) (p : MO) (h : List MV) (J : List MO) (k : MV → List MO → Prop) (a1 c1 c2 : MV), k .none (Om s p h [a1, c1, c2] J) → U 624 [.own 6, .flist [c1, c2]] (Om s p h [a1] J) k
  args : ∀ (s : Sy) (p : MO) (h : List MV) (J : List MO) (k : MV → List MO → Prop) (a1 a2 a3 c1 c2 : MV), k .none (Om s p h [a1, c1, c2] J) → U 624 [.own 6, .flist [c1, c2]] (Om s p h [a1, a2, a3] J) k
  cmp : ∀ (s : Sy) (p : MO) (h : List MV) (J : List MO) (k : MV → List MO → Prop) (rk : Nat → Nat) (a1 c1 c2 : MV) (x y : Int) (m1 m2 : Nat), SyOk s → Ev rk h c1 x m1 → Ev rk h c2 y m2 → m1 ≤ 80000 → m2 ≤ 80000 →
    ((∀ J', k (.bool (x == y)) (Om s p h [a1, c1, c2] J')) → U 553 [.own 6] (Om s p h [a1, c1, c2] J) k) ∧
    ((∀ J', k (.bool (x != y)) (Om s p h [a1, c1, c2] J')) → U 560 [.own 6] (Om s p h [a1, c1, c2] J) k) ∧
    ((∀ J', k (.bool (decide (x < y))) (Om s p h [a1, c1, c2] J')) → U 567 [.own 6] (Om s p h [a1, c1, c2] J) k) ∧
    ((∀ J', k (.bool (decide (x > y))) (Om s p h [a1, c1, c2] J')) → U 574 [.own 6] (Om s p h [a1, c1, c2] J) k) ∧
    ((∀ J', k (.bool (decide (x ≤ y))) (Om s p h [a1, c1, c2] J')) → U 581 [.own 6] (Om s p h [a1, c1, c2] J) k) ∧
    ((∀ J', k (.bool (decide (x ≥ y))) (Om s p h [a1, c1, c2] J')) → U 588 [.own 6] (Om s p h [a1, c1, c2] J) k)

theorem lib (n : Nat) : Lib (GG (n + 80)) where
  draw := drawC (GG (n + 79))
  sym := fun p k q => init_sym (G := GG (n + 77)) q
  times := fun p k q => times_new (G := GG (n + 78)) q
  tree := tree_ok 4 (n + 74) (by decide)
  other := fun t h w => other_ok 70 t (n + 9) h w
  value := fun a b c B t h1 h2 h3 w h4 => value_ok h1 h2 70 t (n + 10) h3 w h4
  areas := fun s p k q => init_areas (G := GG (n + 77)) q
  newvar := fun s p h xl J k h1 q => new_var_ok (G := GG (n + 78)) h1 q
  bind := fun s p h xl J k a c h1 h2 q => bind_ok (G := GG (n + 79)) h1 h2 q
  put := fun s p h xl J k t S w h1 h2 q => put_ok (G := GG (n + 77)) S w h1 h2 q
  gap := fun s p h xl J k z q => put_gap (G := GG (n + 78)) q
  struct := fun s p h xl J k c1 c2 d1 d2 S h1 h2 h3 q => new_struct_ok (G := GG (n + 77)) S h1 h2 h3 q
  args0 := fun s p h J k a1 c1 c2 q => args_new (G := GG (n + 78)) q
  args := fun s p h J k a1 a2 a3 c1 c2 q => args_ok (G := GG (n + 78)) q
  cmp := fun s p h J k rk a1 c1 c2 x y m1 m2 S E1 E2 l1 l2 => ⟨fun q => eq_ok (G := GG (n + 75)) S E1 E2 l1 l2 q, fun q => ne_ok (G := GG (n + 75)) S E1 E2 l1 l2 q, fun q => lt_ok (G := GG (n + 75)) S E1 E2 l1 l2 q,
    fun q => gt_ok (G := GG (n + 75)) S E1 E2 l1 l2 q, fun q => le_ok (G := GG (n + 75)) S E1 E2 l1 l2 q, fun q => ge_ok (G := GG (n + 75)) S E1 E2 l1 l2 q⟩
end Mine
end

section
open PySem Mine
set_option Elab.async false
set_option maxRecDepth 100000
set_option linter.unusedVariables false
set_option maxHeartbeats 8000000

namespace Mine
local macro_rules | `(tactic| walk_at "go") => `(tactic| ((conv => whnf); (repeat (refine ⟨by first | decide | exact Nat.le_of_ble_eq_true rfl | decide +kernel | exact trivial | exact rfl, ?_⟩; (conv => whnf)))))

/-! ## the law -/
noncomputable def tl : MSs → MSs
  | .nil => .nil
  | .cons _ r => r
noncomputable def lawB : MSs := f783.body

section
variable {U : Orc} {K : Fl → S → Prop}

/-- the table of names is there, and the pool -/
theorem law_a (L : Lib U) {xs : List MV} (hx : xs.length < 1000000)
    (q : evSs U tab (tl (tl (tl lawB))) ⟨[some (.flist xs), some (.own 0), some (.own 1), some (.int 32), none, none, none, none, none, none, none, none, none, none, none], symS (.list [.flist (xs.take 63), .int 0, .int (-1), .int 0]) sy3 []⟩ K) :
    evSs U tab lawB ⟨[some (.flist xs), none, none, none, none, none, none, none, none, none, none, none, none, none, none], []⟩ K := by
  refine cut (σ' := ⟨[some (.flist xs), some (.own 0), none, none, none, none, none, none, none, none, none, none, none, none, none], [.list [.flist (xs.take 63), .int 0, .int (-1), .int 0]]⟩) (fun K hK => ?_) ?_
  · walk_at "go"
    refine ⟨hx, ?_⟩
    walk_at "go"
    exact hK
  refine cut (σ' := ⟨[some (.flist xs), some (.own 0), some (.own 1), none, none, none, none, none, none, none, none, none, none, none, none], symS (.list [.flist (xs.take 63), .int 0, .int (-1), .int 0]) sy2 []⟩) (fun K hK => ?_) ?_
  · walk_at "go"
    refine L.sym _ _ ?_
    walk_at "go"
    exact hK
  refine cut (σ' := ⟨[some (.flist xs), some (.own 0), some (.own 1), some (.int 32), none, none, none, none, none, none, none, none, none, none, none], symS (.list [.flist (xs.take 63), .int 0, .int (-1), .int 0]) sy3 []⟩) (fun K hK => ?_) q
  · walk_at "go"
    refine L.times _ _ ?_
    walk_at "go"
    exact hK

/-- a statement whose outcome is known up to a property -/
theorem cutP {a : MS} {r : MSs} {σ : S} (P : S → Prop) (h1 : ∀ K : Fl → S → Prop, (∀ σ', P σ' → K .next σ') → evS U tab a σ K) (h2 : ∀ σ', P σ' → evSs U tab r σ' K) : evSs U tab (.cons a r) σ K :=
  h1 _ h2

structure Drawn (t t' : Tr) : Prop where
  wf : Wf t
  ex : ex t ≤ 10
  sm : sm t ≤ 70
  wf' : Wf t'
  val : ∀ ν, Mine.val ν t' = Mine.val ν t
  nm : ∀ B, 4 ≤ B → nm B t' ≤ B ^ Mine.ex t
  sz' : sz t' ≤ Mine.sm t

theorem law_b (L : Lib U) {x0 : Option MV} {p : MO} (hp : Pool p)
    (q : ∀ t t' n0 n1 n2 g p', Drawn t t' → Pool p' → n0.natAbs ≤ 2 ^ 67 → n1.natAbs ≤ 2 ^ 67 → n2.natAbs ≤ 2 ^ 67 → 0 < g → g < 2 ^ 67 →
      evSs U tab (tl (tl (tl (tl (tl (tl (tl lawB))))))) ⟨[x0, some (.own 0), some (.own 1), some (.int 32), some (enc t), some (enc t'), some (.flist [.int n0, .int n1, .int n2]), some (enc (.i g)), none, none, none, none, none, none, none], symS p' sy3 []⟩ K) :
    evSs U tab (tl (tl (tl lawB))) ⟨[x0, some (.own 0), some (.own 1), some (.int 32), none, none, none, none, none, none, none, none, none, none, none], symS p sy3 []⟩ K := by
  refine cutP (fun σ' => ∃ t p', Wf t ∧ ex t ≤ 10 ∧ sm t ≤ 70 ∧ Pool p' ∧ σ' = ⟨[x0, some (.own 0), some (.own 1), some (.int 32), some (enc t), none, none, none, none, none, none, none, none, none, none], symS p' sy3 []⟩) (fun K hK => ?_) ?_
  · walk_at "go"
    refine L.tree p _ _ hp fun t p' h1 h2 h3 h4 => ?_
    exact hK _ ⟨t, p', h1, h2, h3, h4, rfl⟩
  rintro _ ⟨t, p1, w1, w2, w3, hp1, rfl⟩
  refine cutP (fun σ' => ∃ t' p', Drawn t t' ∧ Pool p' ∧ σ' = ⟨[x0, some (.own 0), some (.own 1), some (.int 32), some (enc t), some (enc t'), none, none, none, none, none, none, none, none, none], symS p' sy3 []⟩) (fun K hK => ?_) ?_
  · walk_at "go"
    refine L.other t (Nat.le_trans (sz_sm t) w3) w1 p1 _ _ hp1 fun t' p' h1 h2 h3 h4 h5 => ?_
    exact hK _ ⟨t', p', ⟨w1, w2, w3, h1, h2, h3, h4⟩, h5, rfl⟩
  rintro _ ⟨t', p2, D, hp2, rfl⟩
  have e1 : (10 : Int) ^ Int.toNat 20 = 100000000000000000000 := by decide
  have e2 : (10 : Int) ^ Int.toNat 19 = 10000000000000000000 := by decide
  have e3 : (10 : Int) ^ Int.toNat 9 = 1000000000 := by decide
  refine cutP (fun σ' => ∃ n0 n1 n2 p', n0.natAbs ≤ 2 ^ 67 ∧ n1.natAbs ≤ 2 ^ 67 ∧ n2.natAbs ≤ 2 ^ 67 ∧ Pool p' ∧ σ' = ⟨[x0, some (.own 0), some (.own 1), some (.int 32), some (enc t), some (enc t'), some (.flist [.int n0, .int n1, .int n2]), none, none, none, none, none, none, none, none], symS p' sy3 []⟩) (fun K hK => ?_) ?_
  · walk_at "go"
    refine L.draw p2 _ _ _ hp2 (by decide) (by decide) fun d0 p3 a0 b0 hp3 => ?_
    walk_at "go"
    refine L.draw p3 _ _ _ hp3 (by decide) (by decide) fun d1 p4 a1 b1 hp4 => ?_
    walk_at "go"
    refine L.draw p4 _ _ _ hp4 (by decide) (by decide) fun d2 p5 a2 b2 hp5 => ?_
    walk_at "go"
    refine hK _ ⟨_, _, _, p5, ?_, ?_, ?_, hp5, rfl⟩
    · rw [e1] at b0; rw [e2]; omega
    · omega
    · rw [e3] at b2; omega
  rintro _ ⟨n0, n1, n2, p6, l0, l1, l2, hp6, rfl⟩
  refine cutP (fun σ' => ∃ g p', 0 < g ∧ g < 2 ^ 67 ∧ Pool p' ∧ σ' = ⟨[x0, some (.own 0), some (.own 1), some (.int 32), some (enc t), some (enc t'), some (.flist [.int n0, .int n1, .int n2]), some (enc (.i g)), none, none, none, none, none, none, none], symS p' sy3 []⟩) (fun K hK => ?_) ?_
  · walk_at "go"
    refine L.draw p6 _ _ _ hp6 (by decide) (by decide) fun d p7 a b hp7 => ?_
    walk_at "go"
    refine hK _ ⟨1 + d, p7, by omega, ?_, hp7, rfl⟩
    rw [e3] at b; omega
  rintro _ ⟨g, p8, g0, g1, hp8, rfl⟩
  exact q t t' n0 n1 n2 g p8 D hp8 l0 l1 l2 g0 g1

theorem law_c (L : Lib U) {x0 x4 x5 x7 : Option MV} {n0 n1 n2 : Int} {p : MO}
    (q : ∀ l10, evSs U tab (tl (tl (tl (tl (tl (tl (tl (tl (tl (tl lawB)))))))))) ⟨[x0, some (.own 0), some (.own 1), some (.int 32), x4, x5, some (.flist [.int n0, .int n1, .int n2]), x7, some (.own 6), some (.own 11), l10, none, none, none, none], Om sy3 p [cI n0, cI n1, cI n2] [vo] (.dict tb3 :: [])⟩ K) :
    evSs U tab (tl (tl (tl (tl (tl (tl (tl lawB))))))) ⟨[x0, some (.own 0), some (.own 1), some (.int 32), x4, x5, some (.flist [.int n0, .int n1, .int n2]), x7, none, none, none, none, none, none, none], symS p sy3 []⟩ K := by
  generalize hs : sy3 = s at *
  refine cut (σ' := ⟨[x0, some (.own 0), some (.own 1), some (.int 32), x4, x5, some (.flist [.int n0, .int n1, .int n2]), x7, some (.own 6), none, none, none, none, none, none], Om s p [] [vo] []⟩) (fun K hK => ?_) ?_
  · walk_at "go"
    refine L.areas s p _ ?_
    walk_at "go"
    exact hK
  refine cut (σ' := ⟨[x0, some (.own 0), some (.own 1), some (.int 32), x4, x5, some (.flist [.int n0, .int n1, .int n2]), x7, some (.own 6), some (.own 11), none, none, none, none, none], Om s p [] [vo] (.dict [] :: [])⟩) (fun K hK => by walk_at "go"; exact hK) ?_
  refine cutP (fun σ' => ∃ l10, σ' = ⟨[x0, some (.own 0), some (.own 1), some (.int 32), x4, x5, some (.flist [.int n0, .int n1, .int n2]), x7, some (.own 6), some (.own 11), l10, none, none, none, none], Om s p [cI n0, cI n1, cI n2] [vo] (.dict tb3 :: [])⟩) (fun K hK => ?_) ?_
  · walk_at "go"
    refine L.newvar s p [] [vo] _ _ (by simp) ?_
    walk_at "go"
    refine L.bind s p [cR 0] [vo] (.dict [(.ki 0, cR 0)] :: []) _ 0 (cI n0) (by simp) (by simp) ?_
    walk_at "go"
    refine L.newvar s p [cI n0] [vo] (.dict [(.ki 0, cR 0)] :: []) _ (by simp) ?_
    walk_at "go"
    refine L.bind s p [cI n0, cR 1] [vo] (.dict [(.ki 0, cR 0), (.ki 1, cR 1)] :: []) _ 1 (cI n1) (by simp) (by simp) ?_
    walk_at "go"
    refine L.newvar s p [cI n0, cI n1] [vo] (.dict [(.ki 0, cR 0), (.ki 1, cR 1)] :: []) _ (by simp) ?_
    walk_at "go"
    refine L.bind s p [cI n0, cI n1, cR 2] [vo] (.dict [(.ki 0, cR 0), (.ki 1, cR 1), (.ki 2, cR 2)] :: []) _ 2 (cI n2) (by simp) (by simp) ?_
    walk_at "go"
    exact hK _ ⟨_, rfl⟩
  rintro _ ⟨l10, rfl⟩
  exact q l10

end
end Mine
end

section
open PySem Mine
set_option Elab.async false
set_option maxRecDepth 100000
set_option linter.unusedVariables false
set_option maxHeartbeats 8000000

namespace Mine
local macro_rules | `(tactic| walk_at "go") => `(tactic| ((conv => whnf); (repeat (refine ⟨by first | decide | exact Nat.le_of_ble_eq_true rfl | decide +kernel | exact trivial | exact rfl, ?_⟩; (conv => whnf)))))

/-! ## the cells of the law and what they are worth -/
theorem nm_self {B : Nat} (hB : 4 ≤ B) : ∀ t, nm B t ≤ B ^ ex t
  | .v _ => L1 hB
  | .i _ => L1 hB
  | .u a => Nat.le_trans (nm_self hB a) (Nat.pow_le_pow_right (by omega) (Nat.le_succ _))
  | .b f x y => by
    have hx := nm_self hB x
    have hy := nm_self hB y
    have ex' := ex_ge x
    have ey' := ex_ge y
    show (if f = 32 then nm B x * nm B y else nm B x + nm B y) ≤ B ^ (ex x + ex y)
    split
    · exact nm_mul hx hy
    · exact nm_add hB (by omega) (by omega) hx hy

theorem nm_small {n e : Nat} (h : n ≤ (2 ^ 67) ^ e) (he : e ≤ 10) {m : Nat} (hm : 670 < m) : n < 2 ^ m := by
  rw [← Nat.pow_mul] at h
  exact Nat.lt_of_le_of_lt h (Nat.pow_lt_pow_right (by decide) (by omega))

theorem nus_le {a b c : Int} {B : Nat} (h0 : a.natAbs ≤ B) (h1 : b.natAbs ≤ B) (h2 : c.natAbs ≤ B) : ∀ i, (nus a b c i).natAbs ≤ B
  | 0 => h0
  | 1 => h1
  | 2 => h2
  | _ + 3 => Nat.zero_le _

theorem four67 : 4 ≤ 2 ^ 67 := by
  have := Nat.pow_le_pow_right (n := 2) (by decide) (show 2 ≤ 67 by decide)
  exact this

theorem val_lt {a b c : Int} (h0 : a.natAbs ≤ 2 ^ 67) (h1 : b.natAbs ≤ 2 ^ 67) (h2 : c.natAbs ≤ 2 ^ 67) {t : Tr} (w : Wf t) (he : ex t ≤ 10) : (val (nus a b c) t).natAbs < 2 ^ 700 :=
  Nat.lt_of_le_of_lt (val_le (nus_le h0 h1 h2) (Nat.le_refl _) t w) (nm_small (nm_self four67 t) he (by decide))

theorem ev_lt {rk : Nat → Nat} {h : List MV} {s : Nat} {v : Int} {m : Nat} (E : Ev rk h (cS s) v m) : s < h.length := by
  generalize hc : cS s = c at E
  cases E with
  | int => exact (cI_cS hc.symm).elim
  | ref _ _ => exact (cR_cS hc.symm).elim
  | un b1 b2 => obtain rfl := cS_inj hc; exact (List.getElem?_eq_some_iff.mp b2).1
  | bin b1 b2 b3 => obtain rfl := cS_inj hc; exact (List.getElem?_eq_some_iff.mp b3).1

/-- the three cells of the law in one heap -/
structure Three (h : List MV) (cl cr ca : MV) (v g : Int) : Prop where
  ex : ∃ rk m1 m2 m3, Ev rk h cl v m1 ∧ Ev rk h cr v m2 ∧ Ev rk h ca (v + g) m3 ∧ m1 ≤ 80000 ∧ m2 ≤ 80000 ∧ m3 ≤ 80000

theorem pow_small {n : Nat} (h : n < 2 ^ 701) : n < 2 ^ 4000 := Nat.lt_trans h (Nat.pow_lt_pow_right (by decide) (by decide))

theorem add_small {x y : Nat} (hx : x < 2 ^ 700) (hy : y < 2 ^ 67) : x + y < 2 ^ 701 := by
  have h : 2 ^ 67 ≤ 2 ^ 700 := Nat.pow_le_pow_right (by decide) (by decide)
  have e : 2 ^ 701 = 2 ^ 700 + 2 ^ 700 := by rw [show 701 = 700 + 1 from rfl, Nat.pow_succ]; omega
  rw [e]
  generalize 2 ^ 700 = a at *
  generalize 2 ^ 67 = b at *
  omega

theorem natAbs_add_small {x y : Int} (hx : x.natAbs < 2 ^ 700) (hy : y.natAbs < 2 ^ 67) : (x + y).natAbs < 2 ^ 4000 :=
  pow_small (Nat.lt_of_le_of_lt (Int.natAbs_add_le x y) (add_small hx hy))

theorem th1 {a s : Nat} (h1 : a ≤ 3 + 3 * s) (z : s ≤ 70) : a ≤ 300 := by omega
theorem th2 {a b s : Nat} (h1 : b ≤ a + 3 * s) (z : s ≤ 70) (h : a ≤ 300) : b ≤ 600 := by omega
theorem th3 {a s : Nat} (h1 : a ≤ 2 * s) (z : s ≤ 70) : a + 1 + 2 ≤ 80000 := by omega
theorem th4 {b : Nat} (h : b ≤ 600) : b + 2 < 100000 := by omega
theorem three_of {h1 h2 : List MV} {t t' : Tr} {n0 n1 n2 g : Int} {cl cr d : MV} (D : Drawn t t') (b0 : n0.natAbs ≤ 2 ^ 67) (b1 : n1.natAbs ≤ 2 ^ 67) (b2 : n2.natAbs ≤ 2 ^ 67) (hg : g.natAbs < 2 ^ 67)
    (P1 : Put [cI n0, cI n1, cI n2] t h1 cl) (P2 : Put h1 t' h2 cr) (hd : Dr h2 cr d) :
    Three (h2 ++ [cF 14, d, cI g]) cl cr (cS h2.length) (val (nus n0 n1 n2) t) g := by
  have s1 : h1.length ≤ 3 + 3 * sz t := P1.size
  have s2 : h2.length ≤ h1.length + 3 * sz t' := P2.size
  have z1 : sz t ≤ 70 := Nat.le_trans (sz_sm t) D.sm
  have z2 : sz t' ≤ 70 := Nat.le_trans D.sz' D.sm
  have l1 := P1.le
  have l2 := P2.le
  have l1' : 3 ≤ h1.length := l1
  have N1 : Nums h1 n0 n1 n2 := ⟨P1.same 0 (by show 0 < 3; decide), P1.same 1 (by show 1 < 3; decide), P1.same 2 (by show 2 < 3; decide)⟩
  have N2 : Nums h2 n0 n1 n2 := ⟨(P2.same 0 (Nat.lt_of_lt_of_le (by decide) l1')).trans N1.n0, (P2.same 1 (Nat.lt_of_lt_of_le (by decide) l1')).trans N1.n1, (P2.same 2 (Nat.lt_of_lt_of_le (by decide) l1')).trans N1.n2⟩
  have k1 := th1 s1 z1
  have k2 := th2 s2 z2 k1
  have hν := nus_le b0 b1 b2
  have v1 : nm (2 ^ 67) t < 2 ^ 4000 := nm_small (nm_self four67 t) D.ex (by decide)
  have v2 : nm (2 ^ 67) t' < 2 ^ 4000 := nm_small (D.nm _ four67) D.ex (by decide)
  have vv := val_lt b0 b1 b2 D.wf D.ex
  have e1 := em_le t
  have e2 := em_le t'
  generalize hrk : (fun a : Nat => if a = h2.length then 0 else a + 1) = rk
  have rkL : rk h2.length = 0 := by rw [← hrk]; exact if_pos rfl
  have rkO : ∀ a, a < h2.length → rk a = a + 1 := fun a ha => by rw [← hrk]; exact if_neg (Nat.ne_of_lt ha)
  have E1 : Ev rk h1 cl (val (nus n0 n1 n2) t) (em t) := rd_ev (fun a b hab hb => by rw [rkO a (Nat.lt_trans hab (Nat.lt_of_lt_of_le hb l2)), rkO b (Nat.lt_of_lt_of_le hb l2)]; exact Nat.succ_lt_succ hab) N1 (Nat.le_trans k1 (by decide)) hν (Nat.le_refl _) t cl D.wf v1 P1.rd
  have E2 : Ev rk h2 cr (val (nus n0 n1 n2) t') (em t') := rd_ev (fun a b hab hb => by rw [rkO a (Nat.lt_trans hab hb), rkO b hb]; exact Nat.succ_lt_succ hab) N2 (Nat.le_trans k2 (by decide)) hν (Nat.le_refl _) t' cr D.wf' v2 P2.rd
  rw [D.val] at E2
  obtain ⟨d', D', E3⟩ := dr_ev E2
  have hdd : d' = d := by
    cases hd with
    | I => cases D' with
      | I => rfl
    | S => cases D' with
      | S => rfl
    | R x y => cases D' with
      | R x' y' => rw [x] at x'; cases x'; rfl
  subst hdd
  have mo1 : ∀ (j : Nat) x, h1[j]? = some x → h2[j]? = some x := fun j x e => (P2.same j (List.getElem?_eq_some_iff.mp e).1).trans e
  have mo2 : ∀ (j : Nat) x, h2[j]? = some x → (h2 ++ [cF 14, d', cI g])[j]? = some x := fun j x e => by
    rw [List.getElem?_append_left (List.getElem?_eq_some_iff.mp e).1]; exact e
  have at0 : (h2 ++ [cF 14, d', cI g])[h2.length]? = some (cF 14) := by rw [List.getElem?_append_right (Nat.le_refl _), Nat.sub_self]; rfl
  have at1 : (h2 ++ [cF 14, d', cI g])[h2.length + 1]? = some d' := by rw [List.getElem?_append_right (Nat.le_add_right _ _), Nat.add_sub_cancel_left]; rfl
  have at2 : (h2 ++ [cF 14, d', cI g])[h2.length + 2]? = some (cI g) := by rw [List.getElem?_append_right (Nat.le_add_right _ _), Nat.add_sub_cancel_left]; rfl
  have F3 := E3.mono mo2
  refine ⟨rk, em t, em t', em t' + 1 + 2, (E1.mono mo1).mono mo2, E2.mono mo2, ?_, Nat.le_trans (Nat.le_add_right _ 3) (th3 e1 z1), Nat.le_trans (Nat.le_add_right _ 3) (th3 e2 z2), th3 e2 z2⟩
  have hop : val (nus n0 n1 n2) t + g = opI 14 (val (nus n0 n1 n2) t) g := rfl
  rw [hop]
  refine Ev.bin (n := 14) (th4 k2) (.inl rfl) at0 at1 at2 (fun s' e => ?_) (fun s' e => (cI_cS e).elim) F3 .int (Nat.lt_trans vv (Nat.pow_lt_pow_right (by decide) (by decide))) (Nat.lt_trans hg (Nat.pow_lt_pow_right (by decide) (by decide))) (natAbs_add_small vv hg)
  subst e
  have := ev_lt E3
  rw [rkL, rkO s' this]; exact Nat.succ_pos _

section
variable {U : Orc} {K : Fl → S → Prop}

/-- the trees are in the store -/
theorem law_d (L : Lib U) {x0 l10 : Option MV} {t t' : Tr} {n0 n1 n2 g : Int} {p : MO} (D : Drawn t t') (b0 : n0.natAbs ≤ 2 ^ 67) (b1 : n1.natAbs ≤ 2 ^ 67) (b2 : n2.natAbs ≤ 2 ^ 67) (hg : g.natAbs < 2 ^ 67) {s : Sy} (hS : SyOk s)
    (q : ∀ h cl cr ca v J, Three h cl cr ca v g → evSs U tab (tl (tl (tl (tl (tl (tl (tl (tl (tl (tl (tl (tl (tl (tl lawB)))))))))))))) ⟨[x0, some (.own 0), some (.own 1), some (.int 32), some (enc t), some (enc t'), some (.flist [.int n0, .int n1, .int n2]), some (enc (.i g)), some (.own 6), some (.own 11), l10, some cl, some cr, some ca, some (cI v)], Om s p h [vo] J⟩ K) :
    evSs U tab (tl (tl (tl (tl (tl (tl (tl (tl (tl (tl lawB)))))))))) ⟨[x0, some (.own 0), some (.own 1), some (.int 32), some (enc t), some (enc t'), some (.flist [.int n0, .int n1, .int n2]), some (enc (.i g)), some (.own 6), some (.own 11), l10, none, none, none, none], Om s p [cI n0, cI n1, cI n2] [vo] (.dict tb3 :: [])⟩ K := by
  have z1 : sz t ≤ 70 := Nat.le_trans (sz_sm t) D.sm
  have z2 : sz t' ≤ 70 := Nat.le_trans D.sz' D.sm
  have hν := nus_le b0 b1 b2
  have v1 : nm (2 ^ 67) t < 2 ^ 4000 := nm_small (nm_self four67 t) D.ex (by decide)
  have v2 : nm (2 ^ 67) t' < 2 ^ 4000 := nm_small (D.nm _ four67) D.ex (by decide)
  have v3 : nm (2 ^ 67) t < 2 ^ 30000 := nm_small (nm_self four67 t) D.ex (by decide)
  generalize hu : enc t = et
  generalize hu' : enc t' = et'
  refine cutP (fun σ' => ∃ h1 cl J1, Put [cI n0, cI n1, cI n2] t h1 cl ∧ σ' = ⟨[x0, some (.own 0), some (.own 1), some (.int 32), some et, some et', some (.flist [.int n0, .int n1, .int n2]), some (enc (.i g)), some (.own 6), some (.own 11), l10, some cl, none, none, none], Om s p h1 [vo] (.dict tb3 :: J1)⟩) (fun K hK => ?_) ?_
  · walk_at "go"
    subst hu
    refine L.put s p [cI n0, cI n1, cI n2] [vo] [] _ t hS D.wf (by show 3 + 3 * sz t ≤ 100000; omega) (by omega) fun h1 cl J1 P1 => ?_
    exact hK _ ⟨h1, cl, J1, P1, rfl⟩
  rintro _ ⟨h1, cl, J1, P1, rfl⟩
  have s1 : h1.length ≤ 3 + 3 * sz t := P1.size
  refine cutP (fun σ' => ∃ h2 cr J2, Put h1 t' h2 cr ∧ σ' = ⟨[x0, some (.own 0), some (.own 1), some (.int 32), some et, some et', some (.flist [.int n0, .int n1, .int n2]), some (enc (.i g)), some (.own 6), some (.own 11), l10, some cl, some cr, none, none], Om s p h2 [vo] J2⟩) (fun K hK => ?_) ?_
  · walk_at "go"
    subst hu'
    refine L.put s p h1 [vo] J1 _ t' hS D.wf' (by omega) (by omega) fun h2 cr J2 P2 => ?_
    exact hK _ ⟨h2, cr, .dict tb3 :: J2, P2, rfl⟩
  rintro _ ⟨h2, cr, J2, P2, rfl⟩
  have s2 : h2.length ≤ h1.length + 3 * sz t' := P2.size
  have E2 : ∃ d, Dr h2 cr d := by
    have l1' : 3 ≤ h1.length := P1.le
    have N1 : Nums h1 n0 n1 n2 := ⟨P1.same 0 (by show 0 < 3; decide), P1.same 1 (by show 1 < 3; decide), P1.same 2 (by show 2 < 3; decide)⟩
    have N2 : Nums h2 n0 n1 n2 := ⟨(P2.same 0 (by omega)).trans N1.n0, (P2.same 1 (by omega)).trans N1.n1, (P2.same 2 (by omega)).trans N1.n2⟩
    obtain ⟨d, hd, _⟩ := dr_ev (rd_ev (rk := fun a => a) (fun a b hab hb => hab) N2 (by omega) hν (Nat.le_refl _) t' cr D.wf' v2 P2.rd)
    exact ⟨d, hd⟩
  obtain ⟨d, hd⟩ := E2
  refine cutP (fun σ' => ∃ J3, σ' = ⟨[x0, some (.own 0), some (.own 1), some (.int 32), some et, some et', some (.flist [.int n0, .int n1, .int n2]), some (enc (.i g)), some (.own 6), some (.own 11), l10, some cl, some cr, some (cS h2.length), none], Om s p (h2 ++ [cF 14, d, cI g]) [vo] J3⟩) (fun K hK => ?_) ?_
  · walk_at "go"
    refine L.gap s p h2 [vo] J2 _ g fun J3 => ?_
    walk_at "go"
    refine L.struct s p h2 [vo] J3 _ cr (cI g) d (cI g) hS hd .I (by omega) fun J4 => ?_
    exact hK _ ⟨J4, rfl⟩
  rintro _ ⟨J3, rfl⟩
  refine cut (σ' := ⟨[x0, some (.own 0), some (.own 1), some (.int 32), some et, some et', some (.flist [.int n0, .int n1, .int n2]), some (enc (.i g)), some (.own 6), some (.own 11), l10, some cl, some cr, some (cS h2.length), some (cI (val (nus n0 n1 n2) t))], Om s p (h2 ++ [cF 14, d, cI g]) [vo] J3⟩) (fun K hK => ?_) ?_
  · walk_at "go"
    subst hu
    refine L.value n0 n1 n2 (2 ^ 67) t hν (Nat.le_refl _) z1 D.wf v3 _ _ ?_
    walk_at "go"
    exact hK
  subst hu hu'
  exact q _ _ _ _ _ _ (three_of D b0 b1 b2 hg P1 P2 hd)

end
end Mine
end

section
open PySem Mine
set_option Elab.async false
set_option maxRecDepth 100000
set_option linter.unusedVariables false
set_option maxHeartbeats 8000000

namespace Mine
local macro_rules | `(tactic| walk_at "go") => `(tactic| ((conv => whnf); (repeat (refine ⟨by first | decide | exact Nat.le_of_ble_eq_true rfl | decide +kernel | exact trivial | exact rfl, ?_⟩; (conv => whnf)))))

section
variable {U : Orc} {K : Fl → S → Prop} {s : Sy} {p : MO} {h : List MV} {J : List MO} {k : MV → List MO → Prop} {rk : Nat → Nat} {a1 c1 c2 : MV} {x y : Int} {m1 m2 : Nat} {b : Bool}

theorem c553 (L : Lib U) (S : SyOk s) (E1 : Ev rk h c1 x m1) (E2 : Ev rk h c2 y m2) (l1 : m1 ≤ 80000) (l2 : m2 ≤ 80000) (hb : (x == y) = b) (q : ∀ J', k (.bool b) (Om s p h [a1, c1, c2] J')) : U 553 [.own 6] (Om s p h [a1, c1, c2] J) k :=
  (L.cmp s p h J k rk a1 c1 c2 x y m1 m2 S E1 E2 l1 l2).1 (hb ▸ q)
theorem c560 (L : Lib U) (S : SyOk s) (E1 : Ev rk h c1 x m1) (E2 : Ev rk h c2 y m2) (l1 : m1 ≤ 80000) (l2 : m2 ≤ 80000) (hb : (x != y) = b) (q : ∀ J', k (.bool b) (Om s p h [a1, c1, c2] J')) : U 560 [.own 6] (Om s p h [a1, c1, c2] J) k :=
  (L.cmp s p h J k rk a1 c1 c2 x y m1 m2 S E1 E2 l1 l2).2.1 (hb ▸ q)
theorem c567 (L : Lib U) (S : SyOk s) (E1 : Ev rk h c1 x m1) (E2 : Ev rk h c2 y m2) (l1 : m1 ≤ 80000) (l2 : m2 ≤ 80000) (hb : decide (x < y) = b) (q : ∀ J', k (.bool b) (Om s p h [a1, c1, c2] J')) : U 567 [.own 6] (Om s p h [a1, c1, c2] J) k :=
  (L.cmp s p h J k rk a1 c1 c2 x y m1 m2 S E1 E2 l1 l2).2.2.1 (hb ▸ q)
theorem c574 (L : Lib U) (S : SyOk s) (E1 : Ev rk h c1 x m1) (E2 : Ev rk h c2 y m2) (l1 : m1 ≤ 80000) (l2 : m2 ≤ 80000) (hb : decide (x > y) = b) (q : ∀ J', k (.bool b) (Om s p h [a1, c1, c2] J')) : U 574 [.own 6] (Om s p h [a1, c1, c2] J) k :=
  (L.cmp s p h J k rk a1 c1 c2 x y m1 m2 S E1 E2 l1 l2).2.2.2.1 (hb ▸ q)
theorem c581 (L : Lib U) (S : SyOk s) (E1 : Ev rk h c1 x m1) (E2 : Ev rk h c2 y m2) (l1 : m1 ≤ 80000) (l2 : m2 ≤ 80000) (hb : decide (x ≤ y) = b) (q : ∀ J', k (.bool b) (Om s p h [a1, c1, c2] J')) : U 581 [.own 6] (Om s p h [a1, c1, c2] J) k :=
  (L.cmp s p h J k rk a1 c1 c2 x y m1 m2 S E1 E2 l1 l2).2.2.2.2.1 (hb ▸ q)
theorem c588 (L : Lib U) (S : SyOk s) (E1 : Ev rk h c1 x m1) (E2 : Ev rk h c2 y m2) (l1 : m1 ≤ 80000) (l2 : m2 ≤ 80000) (hb : decide (x ≥ y) = b) (q : ∀ J', k (.bool b) (Om s p h [a1, c1, c2] J')) : U 588 [.own 6] (Om s p h [a1, c1, c2] J) k :=
  (L.cmp s p h J k rk a1 c1 c2 x y m1 m2 S E1 E2 l1 l2).2.2.2.2.2 (hb ▸ q)

/-- the questions -/
theorem law_e (L : Lib U) (S : SyOk s) {x0 x1 x2 x3 x4 x5 x6 x7 x9 x10 : Option MV} {cl cr ca : MV} {v g : Int} (g0 : 0 < g) (T : Three h cl cr ca v g) (q : ∀ σ, K (.ret (.bool true)) σ) :
    evSs U tab (tl (tl (tl (tl (tl (tl (tl (tl (tl (tl (tl (tl (tl (tl lawB)))))))))))))) ⟨[x0, x1, x2, x3, x4, x5, x6, x7, some (.own 6), x9, x10, some cl, some cr, some ca, some (cI v)], Om s p h [vo] J⟩ K := by
  obtain ⟨rk, m1, m2, m3, E1, E2, E3, l1, l2, l3⟩ := T
  have E4 : Ev rk h (cI v) v 1 := .int
  have a1 : (v == v) = true := by simp
  have a2 : (v != v) = false := by simp
  have a3 : decide (v ≤ v) = true := decide_eq_true (Int.le_refl _)
  have a4 : decide (v ≥ v) = true := decide_eq_true (Int.le_refl _)
  have a5 : decide (v < v + g) = true := decide_eq_true (by omega)
  have a6 : decide (v ≥ v + g) = false := decide_eq_false (by omega)
  have a7 : decide (v + g > v) = true := decide_eq_true (by omega)
  have a8 : decide (v + g ≤ v) = false := decide_eq_false (by omega)
  refine cut (σ' := ⟨[x0, x1, x2, x3, x4, x5, x6, x7, some (.own 6), x9, x10, some cl, some cr, some ca, some (cI v)], Om s p h [vo, cl, cr] J⟩) (fun K hK => ?_) ?_
  · walk_at "go"
    refine L.args0 s p h J _ vo cl cr ?_
    walk_at "go"
    exact hK
  refine cutP (fun σ' => ∃ J', σ' = ⟨[x0, x1, x2, x3, x4, x5, x6, x7, some (.own 6), x9, x10, some cl, some cr, some ca, some (cI v)], Om s p h [vo, cl, cr] J'⟩) (fun K hK => ?_) ?_
  · walk_at "go"
    refine c553 L S E1 E2 l1 l2 a1 fun J1 => ?_
    walk_at "go"
    refine c560 L S E1 E2 l1 l2 a2 fun J2 => ?_
    walk_at "go"
    refine c581 L S E1 E2 l1 l2 a3 fun J3 => ?_
    walk_at "go"
    refine c588 L S E1 E2 l1 l2 a4 fun J4 => ?_
    walk_at "go"
    exact hK _ ⟨J4, rfl⟩
  rintro _ ⟨J1, rfl⟩
  refine cut (σ' := ⟨[x0, x1, x2, x3, x4, x5, x6, x7, some (.own 6), x9, x10, some cl, some cr, some ca, some (cI v)], Om s p h [vo, cI v, cr] J1⟩) (fun K hK => ?_) ?_
  · generalize hcv : cI v = cv
    walk_at "go"
    subst hcv
    refine L.args s p h J1 _ vo cl cr (cI v) cr ?_
    walk_at "go"
    exact hK
  refine cutP (fun σ' => ∃ J', σ' = ⟨[x0, x1, x2, x3, x4, x5, x6, x7, some (.own 6), x9, x10, some cl, some cr, some ca, some (cI v)], Om s p h [vo, cI v, cr] J'⟩) (fun K hK => ?_) ?_
  · generalize hcv : cI v = cv
    walk_at "go"
    subst hcv
    refine c553 L S E4 E2 (by decide) l2 a1 fun J1 => ?_
    generalize hcv : cI v = cv
    walk_at "go"
    subst hcv
    exact hK _ ⟨J1, rfl⟩
  rintro _ ⟨J2, rfl⟩
  generalize hcv : cI v = cv
  refine cut (σ' := ⟨[x0, x1, x2, x3, x4, x5, x6, x7, some (.own 6), x9, x10, some cl, some cr, some ca, some cv], Om s p h [vo, cl, ca] J2⟩) (fun K hK => ?_) ?_
  · walk_at "go"
    refine L.args s p h J2 _ vo cv cr cl ca ?_
    walk_at "go"
    exact hK
  refine cutP (fun σ' => ∃ J', σ' = ⟨[x0, x1, x2, x3, x4, x5, x6, x7, some (.own 6), x9, x10, some cl, some cr, some ca, some cv], Om s p h [vo, cl, ca] J'⟩) (fun K hK => ?_) ?_
  · walk_at "go"
    refine c567 L S E1 E3 l1 l3 a5 fun J1 => ?_
    walk_at "go"
    refine c588 L S E1 E3 l1 l3 a6 fun J2 => ?_
    walk_at "go"
    exact hK _ ⟨J2, rfl⟩
  rintro _ ⟨J3, rfl⟩
  refine cut (σ' := ⟨[x0, x1, x2, x3, x4, x5, x6, x7, some (.own 6), x9, x10, some cl, some cr, some ca, some cv], Om s p h [vo, ca, cl] J3⟩) (fun K hK => ?_) ?_
  · walk_at "go"
    refine L.args s p h J3 _ vo cl ca ca cl ?_
    walk_at "go"
    exact hK
  walk_at "go"
  refine c574 L S E3 E1 l3 l1 a7 fun J4 => ?_
  walk_at "go"
  refine c581 L S E3 E1 l3 l1 a8 fun J5 => ?_
  walk_at "go"
  exact q _

/-- the law gives back True -/
theorem law_true (n : Nat) {xs : List MV} {K : MV → List MO → Prop} (hi : ∀ x ∈ xs, ∃ z, x = .int z) (hl : xs.length < 1000000) (q : ∀ O, K (.bool true) O) : GG (n + 81) 783 [.flist xs] [] K := by
  have L := lib n
  show up (GG (n + 80)) 783 [.flist xs] [] K
  generalize GG (n + 80) = U at L
  refine ⟨Nat.le_of_ble_eq_true rfl, Nat.le_of_ble_eq_true rfl, ?_⟩
  show evSs U tab lawB ⟨[some (.flist xs), none, none, none, none, none, none, none, none, none, none, none, none, none, none], []⟩ _
  refine law_a L hl ?_
  refine law_b L ⟨xs.take 63, 0, -1, 0, rfl, fun x hx => hi x (List.mem_of_mem_take hx), Nat.lt_of_le_of_lt (List.length_take_le _ _) (by decide), by decide, by decide, by decide⟩ ?_
  intro t t' n0 n1 n2 g p' D hp b0 b1 b2 g0 g1
  refine law_c L fun l10 => ?_
  refine law_d L D b0 b1 b2 (by omega) sy3_ok ?_
  intro h cl cr ca v J T
  exact law_e L sy3_ok g0 T fun σ => q _
end
end Mine
end

section
open PySem PySem.W PyProof.Rows PySem.Calls Mine
set_option Elab.async false
set_option maxRecDepth 100000
set_option linter.unusedVariables false
set_option maxHeartbeats 8000000

namespace Mine

/-! ## the join -/
/-- the law's body gives back True -/
theorem law_body (n : Nat) {xs : List MV} {K : Fl → S → Prop} (hi : ∀ x ∈ xs, ∃ z, x = .int z) (hl : xs.length < 1000000) (q : ∀ σ, K (.ret (.bool true)) σ) :
    evSs (GG (n + 80)) tab lawB ⟨[some (.flist xs), none, none, none, none, none, none, none, none, none, none, none, none, none, none], []⟩ K := by
  have L := lib n
  generalize GG (n + 80) = U at L
  refine law_a L hl ?_
  refine law_b L ⟨xs.take 63, 0, -1, 0, rfl, fun x hx => hi x (List.mem_of_mem_take hx), Nat.lt_of_le_of_lt (List.length_take_le _ _) (by decide), by decide, by decide, by decide⟩ ?_
  intro t t' n0 n1 n2 g p' D hp b0 b1 b2 g0 g1
  refine law_c L fun l10 => ?_
  refine law_d L D b0 b1 b2 (by omega) sy3_ok ?_
  intro h cl cr ca v J T
  exact law_e L sy3_ok g0 T fun σ => q _



noncomputable def cfg (prog : Program) (w : World) (K : Frag) (h : Heap) (mg mb : Str → Option Value) : Cfg := ⟨prog, w, K, Mine.attrL, tab, h, mg, mb⟩

theorem cfg_ok {prog : Program} {w : World} {K : Frag} {h : Heap} {mg mb : Str → Option Value} (KX : K.In h) (hg : h.Ns mainGlobals mg) (hb : h.Ns builtinsNs mb) (nl : h.NoLimit) (bt : ∀ x : Str, x ≠ "__name__" → mb x = bootBuiltins x) (ck1 : chkFld K = true) (ck2 : chkMth K = true) (ck3 : chkIni K = true) : (cfg prog w K h mg mb).Ok := by
  refine ⟨KX, hg, hb, nl, bt, ?_, ?_, fld_of ck1, mth_of ck2, ini_of ck3⟩
  · show Mine.attrL.Nodup
    decide +kernel
  · obtain ⟨o, _, _, ho, _⟩ := hg
    have : mainGlobals < h.objs.size := Heap.lt_size ho
    exact Nat.lt_of_le_of_lt (by decide) this

theorem fn_237 {dfl : List MV} (h : (237, dfl) ∈ fnL) : dfl = [] := by
  unfold fnL at h; simpa using h
theorem fn_603 {dfl : List MV} (h : (603, dfl) ∈ fnL) : dfl = [.int 100000, .bool true, .int 4096] := by
  unfold fnL at h; simpa using h

theorem fns_ok {prog : Program} {w : World} {K : Frag} {h : Heap} {mg mb : Str → Option Value} (C : (cfg prog w K h mg mb).Ok) (ck4 : chkDef K = true) (c2 : ∀ p ∈ fnL, mkFun (lay K) p.2 p.1 = PP p.1)
    (d1 : dflOf K 237 = some (nm237, true, [.int 100000])) (d2 : dflOf K 603 = some (nm603, true, [.int 100000, .bool true, .int 4096])) :
    ∀ f d, PP f = some d → ∃ fd body names, FnIs (cfg prog w K h mg mb) f d fd body names := by
  intro f d hf
  obtain ⟨dfl, hm⟩ := pp_mem hf
  have e : mkFun (lay K) dfl f = PP f := c2 (f, dfl) hm
  rw [hf] at e
  refine mk_is (c := cfg prog w K h mg mb) (L := lay K) C rfl rfl rfl ?_ e ?_
  · exact ⟨rfl, rfl, rfl, rfl⟩
  · have := List.all_eq_true.mp ck4 _ hm
    simp only [Bool.or_eq_true, Bool.and_eq_true, decide_eq_true_eq, List.isEmpty_iff] at this
    rcases this with h | h | h
    · exact .inl h
    · subst h
      obtain rfl := fn_237 hm
      exact .inr (all_237 (c := cfg prog w K _ mg mb) C.kin d1)
    · subst h
      obtain rfl := fn_603 hm
      exact .inr (all_603 (c := cfg prog w K _ mg mb) C.kin d2)

theorem isAll_ints {g : Heap} {ρ : Locs} {vs : List Value} {ns : List Int} (h : IntsAre vs ns) : IsAll g ρ (ns.map MV.int) vs := by
  induction h with
  | nil => exact .nil
  | cons n t _ ih => exact .cons (.int n t) ih

theorem rm_law (env : Env) : Rm (callerA.deeper env) 80 := ⟨rfl, by show 1 + claimMargin + 1 + 2 * 80 + 1 < recursionLimit; decide, by show 4 + 3 + 20 * 80 + 60 < cLine; decide⟩

/-- the law is run -/
theorem join {prog : Program} {w : World} {K : Frag} {g₀ : Heap} {mg mb : Str → Option Value} (C : (cfg prog w K g₀ mg mb).Ok) (H : ∀ f d, PP f = some d → ∃ fd body names, FnIs (cfg prog w K g₀ mg mb) f d fd body names)
    {name : Str} {scope : Scope} {body : List Stmt} {fa : Addr} {cd : Value} {names : List Str} (hrow : ((fnRow K 783).map fun p => (p.2, p.1.scope, slotsOf p.1)) = some (body, scope, names)) (hmk : mkFun (lay K) [] 783 = some f783) (hcl : (scope.names.all fun p => !decide (p.2 = .cell)) = true)
    {L : Addr} {vs : List Value} {ns : List Int} (hL : g₀.IsList L vs.toArray) (hI : IntsAre vs ns) (hn : ns.length < 1000000)
    {s : Shared} {m : Str → Option Value} (F : Fr g₀ g₀.objs.size s.heap m) {x0 : Str} (hx : names[0]? = some x0) (hm : m x0 = some (.ref L)) {Q : Flow → Shared → Prop} {E : Value → Shared → Prop}
    (q : ∀ h' tk', Sub g₀ h' → Q (.ret (.bool true)) { s with heap := h', toks := tk' }) :
    wpAny (model prog w) (callerA.deeper (envOf name scope g₀.objs.size fa cd)) (execs body (envOf name scope g₀.objs.size fa cd)) Q E s := by
  obtain ⟨⟨fd, b⟩, hr, he⟩ := Option.map_eq_some_iff.mp hrow
  simp only [Prod.mk.injEq] at he
  obtain ⟨rfl, rfl, rfl⟩ := he
  unfold mkFun at hmk
  have hr' : fnRow (lay K).K 783 = some (fd, b) := hr
  rw [hr'] at hmk
  dsimp only at hmk
  split at hmk
  · rename_i hok
    have hf := Option.some.inj hmk
    have hbody : cSs ⟨K, fd.scope, slotsOf fd, Mine.attrL, fun C => iniL.lookup C, flp⟩ 60 b = lawB := congrArg Fun.body hf
    have hnl : (slotsOf fd).length = 15 := congrArg Fun.nloc hf
    unfold fnOk at hok
    simp only [Bool.and_eq_true, Bool.not_eq_true', decide_eq_true_eq, List.isEmpty_iff] at hok
    obtain ⟨⟨⟨⟨⟨⟨⟨⟨⟨⟨h1, h2⟩, h3⟩, h4⟩, h5⟩, h6⟩, h7⟩, h8⟩, h9⟩, h10⟩, h11⟩ := hok
    have hloc : ∀ x ∈ slotsOf fd, fd.scope.names.lookup x = some .local := fun x hx => by
      have := List.all_eq_true.mp h9 x hx
      unfold kindOk at this
      split at this
      · assumption
      · rename_i e
        have := List.all_eq_true.mp hcl _ (mem_lk e)
        simp at this
      · cases this
    have X : CtxOk (cfg prog w K g₀ mg mb) ⟨K, fd.scope, slotsOf fd, Mine.attrL, fun C => iniL.lookup C, flp⟩ (envOf name fd.scope g₀.objs.size fa cd) :=
      ⟨⟨h4, rfl, rfl, h8, fun x hx => .inl (hloc x hx), Nat.le_refl _⟩, rfl, rfl, rfl, rfl, ⟨rfl, rfl, rfl, rfl⟩, fun x hx => by
        have := List.all_eq_true.mp hcl _ (mem_lk hx)
        simp at this⟩
    have hO := orc_gam C H 80
    have sim := cSs_sound C X hO 60 b
    rw [hbody] at sim
    have hx0 : x0 ∈ slotsOf fd := List.mem_of_getElem? hx
    have X0 : St (cfg prog w K g₀ mg mb) (envOf name fd.scope g₀.objs.size fa cd) (slotsOf fd) g₀ s.heap [] m ⟨[some (.flist (ns.map .int)), none, none, none, none, none, none, none, none, none, none, none, none, none, none], []⟩ := by
      refine ⟨⟨Sub.refl _, F.keep, rfl, fun p hp => (nomatch hp), fun p hp => (nomatch hp), List.nodup_nil, fun k o p e => by simp at e⟩, F.ns, ?_, fun p hp => (nomatch hp), fun i x v e1 e2 => ?_, hnl.symm⟩
      · show g₀.get? g₀.objs.size = none
        cases e : g₀.get? g₀.objs.size with
        | none => rfl
        | some o => exact absurd (Heap.lt_size e) (Nat.lt_irrefl _)
      · cases i with
        | zero =>
          have e2 : some (some (MV.flist (ns.map .int))) = some (some v) := e2
          cases e2
          rw [hx] at e1
          cases e1
          exact ⟨.ref L, .flist hL (isAll_ints hI), .inl ⟨hloc _ hx0, hm⟩⟩
        | succ i =>
          exfalso
          have e2 : (List.replicate 14 (none : Option MV))[i]? = some (some v) := e2
          rw [List.getElem?_replicate] at e2
          split at e2 <;> cases e2
    refine sim (callerA.deeper (envOf name fd.scope g₀.objs.size fa cd)) _ (fun fl σ => fl = .ret (.bool true)) g₀ [] m s Q E (rm_law _) ?_ X0 ?_
    · exact law_body 0 (fun x hx => by obtain ⟨z, _, rfl⟩ := List.mem_map.mp hx; exact ⟨z, rfl⟩) (by rw [List.length_map]; exact hn) fun σ => rfl
    · intro fl σ' g' ρ' m' v h' tk' hk s1 p1 X1 i1
      subst hk
      cases i1 with
      | ret hi =>
        cases hi
        exact q h' tk' (X1.mem.base.trans X1.mem.keep)
  · cases hmk
end Mine
end

section
open PySem PySem.W PyProof.Rows
set_option Elab.async false
set_option maxRecDepth 100000
set_option maxHeartbeats 8000000
set_option linter.unusedVariables false

namespace Mine
theorem mem_783 : (783, []) ∈ fnL := by unfold fnL; simp
theorem law_holds : PySem.Challenge.rw_sa0167_01.Holds := by
  refine holds_law h_said fun said => ?_
  refine holds_open (q := qL) (loose := lsL) (Xt := xtL) (XP := XL qL []) (Yf := fun s => (obsA (fragOf s.heap), obsB (fragOf s.heap))) (Ya := fun _ => (valA, valB)) (YP := fun _ h => ∃ K : Frag, K.In h ∧ (obsA K, obsB K) = (valA, valB)) (N := 10000) (left_of h_key)
    (fun w s e => ⟨_, frag_in _, e⟩) (fun w h h' y hk => let ⟨K, k1, k2⟩ := y; ⟨K, fun a o e => hk _ _ (k1 a o e), k2⟩) (fun s e => xl_of s (Bool.and_eq_true_iff.mp e).1) XL.keeps (by rfl) (by rfl) (by rfl)
    (fun s e => recFacts_of (Bool.and_eq_true_iff.mp e).2) (by rfl) said (by decide +kernel) ⟨rfl, rfl, rfl, rfl, rfl, by decide +kernel⟩ ?hw ?hc
  case hw => w_witness2
  case hc =>
    intro w s₀ s₁ mg mb G Y fa o pm cd doc dV kV ho hd hcd hD hmg hg args vals as hpre hlay hrd hwl hlo
    refine Ground.open G ?_
    intro T B D TE TW
    try (refine guard_noD D (by decide +kernel) ?_; clear D)
    obtain ⟨_, _, M⟩ := bmod_of_top T
    have TA := at_of_top T
    try (obtain ⟨_, _, he, B0⟩ := based_of_top T rfl hmg ho hd; have he' : cd = _ := he; subst he'; clear he)
    clear hmg
    wrow_args hpre hlay hrd hwl hlo
    all_goals (
      first | refine callC_kw (enter_call ?_) | refine enter_call ?_ | refine callC_kw (enter_callW ?_) | refine enter_callW ?_ | w_how
      w_top on
      try refine codeAny_mono ?_ (fun _ _ g => GoodW.toG g)
      have K0 := below_caller (Top.heap T)
      w_call any ho hd hcd hD T F
      clear hd TA
      rename Heap.IsList _ _ _ => lX
      rename IntsAre _ _ => iX
      rename ¬ _ < _ => nX
      obtain ⟨K, kX, kE⟩ := Y
      obtain ⟨kA, kB⟩ := Prod.mk.inj kE
      unfold obsA valA at kA
      simp only [Prod.mk.injEq] at kA
      obtain ⟨e1, e2, e3, e4, e6, e7, e8⟩ := kA
      have e9 := List.map_inj_left.mp kB
      have C := cfg_ok (prog := PySem.Challenge.rw_sa0167_01.row.prog) (w := w) kX (Top.g T) (Top.b T) (Top.nolimit T) (Top.builtins T) e1 e2 e3
      have H := fns_ok C e4 e9 e6 e7
      refine join (names := lawN) C H (e8.trans (by kernel_rfl)) (e9 (783, []) mem_783) (by decide +kernel) lX iX (by omega) F (x0 := Str.ofString "script") rfl (by kernel_rfl) ?_
      intro h' tk' hsub
      exact ⟨.inl ⟨.bool true, .bool true, [], rfl, fun cls => rfl, .bool true, by kernel_rfl, fun _ => ⟨List.nodup_nil, fun a ha => nomatch ha⟩⟩, hsub, rfl, hg⟩)
end Mine
end

theorem PySem.Challenge.cw_sa0167_01_holds : PySem.Challenge.rw_sa0167_01.Holds :=
  Mine.law_holds
