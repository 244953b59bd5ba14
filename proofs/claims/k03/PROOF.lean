import PyProof.Rows.All
import Wide.All
import OpenK.AllK
import Wide.FinOn
import HandS.ForMost
import HandS.ForExc
import HandS.Wide
import HandS.IsInst
import HandS.Style
import HandS.Conv
import HandS.Text
import HandS.Replace
import HandS.TupAny
import HandS.Dict
import HandS.More
import HandS.Small
import HandS.HeadHook2
import HandS.EndBits
import PyProof.StrLawsFirst
import PyProof.Rows.StrFin3
import HandS.Head0
import HandS.Head1
import HandS.Head2
import HandS.HeadEnd
import PySem.Challenge.RW_cablehouse_k03_pairs_a_fault_apart
set_option Elab.async false
set_option linter.all false
set_option maxRecDepth 100000
set_option maxHeartbeats 0
namespace PD
open PySem L2

/-! ## data -/
inductive D where
  | non | bl (b : Bool) | int (i : Int) | str (s : Str)
  | lst (ds : List D) | tup (ds : List D) | scr (ns : List Int)
  | dct (kvs : List (D × D)) | kst (ks : List Int) | obj (c : Nat) (fs : List (Nat × D))
/-- a slot's value: frozen data, or a cell of the frame's own table -/
inductive SV where
  | d (x : D) | c (j : Nat)
inductive Ct where
  | lst (ds : List D) | ob (u : D) | fz (x : D)
abbrev Env := List (Option SV)
abbrev Tab := List Ct

def Ct.dat : Ct → D
  | .lst ds => .lst ds
  | .ob u => u
  | .fz x => x
def Ct.live : Ct → Bool
  | .fz _ => false | _ => true
/-- the data that is read at a value -/
def den (L : Tab) : SV → Option D
  | .d x => some x
  | .c j => match L[j]? with
    | some ct => some ct.dat
    | none => none
/-- is it a cell that may still change -/
def owned (L : Tab) : SV → Bool
  | .d _ => false
  | .c j => match L[j]? with
    | some (.lst _) => true
    | some (.ob _) => true
    | _ => false
/-- behind freezing -/
def frzT (L : Tab) : SV → Tab
  | .d _ => L
  | .c j => match L[j]? with
    | some (.lst ds) => L.set j (.fz (.lst ds))
    | some (.ob u) => L.set j (.fz u)
    | _ => L
def D.flat : D → Bool
  | .non => true | .bl _ => true | .int _ => true | .str _ => true | _ => false
def D.key : D → Bool
  | .int _ => true | .str _ => true | _ => false
mutual
def toPy : D → PyData
  | .non => .none | .bl b => .bool b | .int i => .int i | .str s => .str s
  | .lst ds => .list (toPys ds) | .tup ds => .tuple (toPys ds) | .scr ns => .list (ns.map .int)
  | .dct _ => .dict [] | .kst _ => .dict [] | .obj _ _ => .dict []
def toPys : List D → List PyData
  | [] => []
  | d :: ds => toPy d :: toPys ds
end
mutual
def D.pure : D → Bool
  | .non => true | .bl _ => true | .int _ => true | .str _ => true
  | .lst ds => pures ds | .tup ds => pures ds | .scr _ => true
  | .dct _ => false | .kst _ => false | .obj _ _ => false
def pures : List D → Bool
  | [] => true
  | d :: ds => d.pure && pures ds
end

/-! ## the language -/
inductive BOp where | add | sub | mul | fdiv | mod | pow
inductive COp where | lt | le | gt | ge | eq | ne | is | isnot | isin | notin
inductive Bi where
  | len | abs | min2 | max2 | sum | all | int | str | sorted | tuple | max1 | min1 | divmod | setlen
inductive Bm where
  | join | split | index | replace | count | startswith | partition | upper | find | get1
inductive Ty where | int | bool | str | list | tuple | dict | own (c : Nat)
inductive Tg where | v (i : Nat) | t (is : List Nat)

mutual
inductive E where
  | non | bl (b : Bool) | int (i : Int) | str (s : Str)
  | var (i : Nat) | gc (k : Nat)
  | bin (op : BOp) (a b : E) | neg (a : E)
  | cmp (op : COp) (a b : E) | chain (o1 o2 : COp) (a b c : E)
  | and (a b : E) | or (a b : E) | not (a : E) | ife (c : T) (a b : E)
  | call (f : Nat) (as : Es)
  | bi (f : Bi) (as : Es) | bm (f : Bm) (o : E) (as : Es) | isi (a : E) (t : Ty)
  | idx (a i : E) | slc (a lo hi : E) | rev (a : E)
  | edict | tdict (a b : E) | lst (as : Es) | tup (as : Es) | mklist (a : E) | mkrange (a : E)
  | comp (tg : Tg) (it : It) (elt : E) (cs : Ts)
  | fld (a : E) (f : Nat)
inductive Es where | nil | cons (e : E) (es : Es)
inductive T where | and (a b : T) | or (a b : T) | not (a : T) | cmp (op : COp) (a b : E) | chain (o1 o2 : COp) (a b c : E) | val (e : E)
inductive Ts where | nil | cons (e : T) (es : Ts)
inductive It where
  | seq (e : E) | range1 (b : E) | range2 (a b : E) | enum (e : E) | zip (a b : E) | reversed (e : E)
end
mutual
inductive S where
  | asg (tg : Tg) (e : E)
  | own (i : Nat) (e : E)
  | par (i j : Nat) (a b : E)
  | aug (i : Nat) (op : BOp) (e : E)
  | setix (x : Nat) (i e : E)
  | setk (x : Nat) (i : E)
  | append (x : Nat) (e : E) | extend (x : Nat) (e : E)
  | ret (e : E) | retO (e : E) | retN
  | ife (c : T) (a b : Ss)
  | for_ (tg : Tg) (it : It) (sl : List Nat) (body : Ss)
  | while_ (c : T) (sl : List Nat) (body : Ss)
  | raise (c : Nat) (as : Es)
  | expr (e : E)
  | frz (i : Nat)
  | never
  | pass
inductive Ss where | nil | cons (s : S) (ss : Ss)
end

/-- a slice's part: left out, or a whole number -/
def partD : E → SV → Option (Option Int)
  | .non, .d .non => some none
  | .non, _ => none
  | _, .d (.int i) => some (some i)
  | _, _ => none
/-! ## what operations answer -/
def mulOk (i j : Int) : Prop := CMul i j ∨ CMulW i j
def divOk (j : Int) : Prop := 0 < j ∧ j.natAbs.log2 < 9000
def opB : BOp → D → D → (D → Prop) → Prop
  | .add, .int i, .int j, k => k (.int (i + j))
  | .add, .str s, .str t, k => s.length + t.length ≤ sizeLine ∧ k (.str (s ++ t))
  | .add, .lst a, .lst b, k => a.length + b.length ≤ sizeLine ∧ k (.lst (a ++ b))
  | .add, .tup a, .tup b, k => a.length + b.length ≤ sizeLine ∧ k (.tup (a ++ b))
  | .sub, .int i, .int j, k => k (.int (i - j))
  | .mul, .int i, .int j, k => mulOk i j ∧ k (.int (i * j))
  | .mul, .lst a, .int n, k => n < 2 ^ 62 ∧ -(2 ^ 62) < n ∧ a.length * n.toNat ≤ sizeLine ∧ k (.lst (List.replicate n.toNat a).flatten)
  | .fdiv, .int i, .int j, k => divOk j ∧ k (.int (i / j))
  | .mod, .int i, .int j, k => 0 < j ∧ k (.int (i % j))
  | .pow, .int i, .int j, k => CPow i j ∧ k (.int (i ^ j.toNat))
  | _, _, _, _ => False
def D.scal : D → D → Bool
  | .non, .non => true | .non, .int _ => true | .int _, .non => true | .non, .bl _ => true | .bl _, .non => true | .non, .str _ => true | .str _, .non => true
  | .int _, .int _ => true | .bl _, .bl _ => true | .str _, .str _ => true
  | .int _, .str _ => true | .str _, .int _ => true | .bl _, .str _ => true | .str _, .bl _ => true
  | _, _ => false
def D.isNon : D → Bool | .non => true | _ => false
/-- == of scalars of one kind; else of data -/
def eqD : D → D → (Bool → Prop) → Prop
  | .int i, .int j, k => k (i == j)
  | .bl i, .bl j, k => k (i == j)
  | .str i, .str j, k => k (i == j)
  | .int _, .str _, k => k false
  | .str _, .int _, k => k false
  | .bl _, .str _, k => k false
  | .str _, .bl _, k => k false
  | .non, .non, k => k true
  | x, y, k => x.pure = true ∧ y.pure = true ∧ SeqAt.shaped (toPy x) = true ∧ SeqAt.shaped (toPy y) = true ∧ k (PyData.eqv (toPy x) (toPy y))
def D.eqF : D → D → Bool
  | .non, .non => true | .bl a, .bl b => a == b | .int a, .int b => a == b | .str a, .str b => a == b
  | .bl a, .int j => (if a then 1 else 0) == j | .int i, .bl b => i == (if b then 1 else 0)
  | _, _ => false
def D.inL (x : D) (ds : List D) : Bool := ds.any fun y => D.eqF y x
def inD : D → D → (Bool → Prop) → Prop
  | .str a, .str b, k => ∃ c, a = ⟨#[c]⟩ ∧ k (decide (c ∈ b.cps.toList))
  | x, .lst ds, k => x.flat = true ∧ ds.all D.flat = true ∧ k (D.inL x ds)
  | x, .tup ds, k => x.flat = true ∧ ds.all D.flat = true ∧ k (D.inL x ds)
  | _, _, _ => False
def isD : D → D → (Bool → Prop) → Prop
  | x, .non, k => k x.isNon
  | .bl a, .bl b, k => k (a == b)
  | _, _, _ => False
def cmpD : COp → D → D → (Bool → Prop) → Prop
  | .lt, .int i, .int j, k => k (decide (i < j))
  | .le, .int i, .int j, k => k (decide (i ≤ j))
  | .gt, .int i, .int j, k => k (decide (j < i))
  | .ge, .int i, .int j, k => k (decide (j ≤ i))
  | .lt, .str i, .str j, k => k (decide (i.cps.toList < j.cps.toList))
  | .eq, x, y, k => eqD x y k
  | .ne, x, y, k => eqD x y fun b => k (!b)
  | .is, x, y, k => isD x y k
  | .isnot, x, y, k => isD x y fun b => k (!b)
  | .isin, x, y, k => inD x y k
  | .notin, x, y, k => inD x y fun b => k (!b)
  | _, _, _, _ => False
/-- a value's truth -/
def truD : D → (Bool → Prop) → Prop
  | .bl b, k => k b
  | .non, k => k false
  | .int i, k => k (i != 0)
  | .lst ds, k => k (!ds.isEmpty)
  | .tup ds, k => k (!ds.isEmpty)
  | _, _ => False
/-- the items of a list, a tuple, the script -/
def D.items : D → Option (List D)
  | .lst ds => some ds
  | .tup ds => some ds
  | .scr ns => some (ns.map .int)
  | _ => none
def idxD : D → D → (D → Prop) → Prop
  | .lst ds, .int i, k => ∃ v, atI ds i = some v ∧ k v
  | .tup ds, .int i, k => ∃ v, atI ds i = some v ∧ k v
  | .scr ns, .int i, k => ∃ v, atI ns i = some v ∧ k (.int v)
  | .str z, .int i, k => ∃ c, z.length ≤ sizeLine ∧ atI z.cps.toList i = some c ∧ k (.str ⟨#[c]⟩)
  | _, _, _ => False
def cutL {α : Type} (xs : List α) (lo hi : Option Int) : List α := (xs.drop (HT.sIx xs.length 0 lo)).take (HT.sIx xs.length xs.length hi - HT.sIx xs.length 0 lo)
def cutD : D → Option Int → Option Int → (D → Prop) → Prop
  | .lst ds, lo, hi, k => k (.lst (cutL ds lo hi))
  | .scr ns, lo, hi, k => k (.lst ((cutL ns lo hi).map .int))
  | .str z, lo, hi, k => z.length ≤ sizeLine ∧ k (.str (cutS z lo hi))
  | _, _, _, _ => False
def tyD : D → Ty → Option Bool
  | .obj _ _, _ => none
  | .kst _, _ => none
  | _, .own _ => none
  | .dct _, .dict => some true
  | .bl _, .int => some true | .bl _, .bool => some true
  | .int _, .int => some true
  | .str _, .str => some true
  | .lst _, .list => some true | .scr _, .list => some true
  | .tup _, .tuple => some true
  | _, _ => some false
def biD : Bi → List D → (D → Prop) → Prop
  | .len, [.lst ds], k => k (.int ds.length)
  | .len, [.tup ds], k => k (.int ds.length)
  | .len, [.scr ns], k => k (.int ns.length)
  | .len, [.str s], k => s.length ≤ sizeLine ∧ k (.int s.length)
  | .abs, [.int i], k => k (.int (if i < 0 then -i else i))
  | .max2, [.int i, .int j], k => k (.int (if j > i then j else i))
  | .min2, [.int i, .int j], k => k (.int (if j < i then j else i))
  | .sum, [.lst ds], k => ∃ ns : List Int, ds = ns.map .int ∧ k (.int ns.sum)
  | .all, [.lst ds], k => ∃ bs : List Bool, ds = bs.map .bl ∧ k (.bl (bs.all id))
  | .max1, [.lst ds], k => ∃ ns : List Int, ds = ns.map .int ∧ 0 < ns.length ∧ ∀ m, m ∈ ns → (∀ y, y ∈ ns → y ≤ m) → k (.int m)
  | .min1, [.lst ds], k => ∃ ns : List Int, ds = ns.map .int ∧ 0 < ns.length ∧ ∀ m, m ∈ ns → (∀ y, y ∈ ns → m ≤ y) → k (.int m)
  | .sorted, [.lst ds], k => ∃ ns : List Int, ds = ns.map .int ∧ ns.length < 64 ∧ ∀ ns' : List Int, ns'.Perm ns → ns'.Pairwise (· ≤ ·) → k (.lst (ns'.map .int))
  | .sorted, [.kst ks], k => ks.length < 64 ∧ ∀ ns' : List Int, ns'.Perm ks → ns'.Pairwise (· ≤ ·) → k (.lst (ns'.map .int))
  | .tuple, [.lst ds], k => k (.tup ds)
  | .int, [.int i], k => k (.int i)
  | .int, [.bl b], k => k (.int (if b then 1 else 0))
  | _, _, _ => False
def bmD : Bm → Str → List D → (D → Prop) → Prop
  | .join, a, [.lst ds], k => ∃ ys : List Str, ds = ys.map .str ∧ (ys.map (·.length)).sum + ys.length * a.length ≤ 16777216 ∧ k (.str (Txt.join a ys))
  | .split, a, [.str b], k => (b.length == 0) = false ∧ a.length + 2 ≤ sizeLine ∧ k (.lst ((Txt.split a b).map .str))
  | .index, a, [.str b], k => ∃ i rest, Builtin.Str.occurrences a b 0 a.length 1 = i :: rest ∧ k (.int ((i : Nat) : Int))
  | .find, a, [.str b], k => k (.int (Txt.find a b))
  | .count, a, [.str b], k => k (.int (Txt.count a b))
  | .startswith, a, [.str b], k => k (.bl (Txt.startswith a b))
  | _, _, _, _ => False

/-! ## the walk on data: what must hold for k -/
abbrev KV := SV → Tab → Prop
/-- an exception: its class, its field -/
abbrev Xn := Nat × Option D
/-- what comes of a call: a frozen value, or a new list of the caller's own -/
inductive Rs where | v (x : D) | new (ds : List D)
def Rs.dat : Rs → D | .v x => x | .new ds => .lst ds
def Rs.flat : Rs → Bool | .v x => x.flat | .new ds => ds.all D.flat
abbrev Calls := Nat → List D → (Rs → Prop) → (Xn → Prop) → Prop

def setS (env : Env) (i : Nat) (v : SV) : Env := env.set i (some v)
def setAll (env : Env) : List Nat → List D → Env
  | i :: is, x :: xs => setAll (setS env i (.d x)) is xs
  | _, _ => env
def tgD : Tg → D → Env → (Env → Prop) → Prop
  | .v i, x, env, k => k (setS env i (.d x))
  | .t is, .tup ds, env, k => is.length = ds.length ∧ k (setAll env is ds)
  | _, _, _, _ => False
def tgSlots : Tg → List Nat | .v i => [i] | .t is => is
def wipeE (env : Env) : List Nat → Env
  | [] => env
  | i :: is => (wipeE env is).set i none
/-- new list: a cell where it is to be the frame's own, else frozen -/
def mkL (m : Bool) (ds : List D) (L : Tab) (k : KV) : Prop := match m with
  | true => k (.c L.length) (L ++ [.lst ds])
  | false => k (.d (.lst ds)) L
/-- what comes of an operation, of a call -/
def resK (m : Bool) (L : Tab) (k : KV) : D → Prop
  | .lst ds => mkL m ds L k
  | r => k (.d r) L
def rsK (m : Bool) (L : Tab) (k : KV) : Rs → Prop
  | .v x => k (.d x) L
  | .new ds => mkL m ds L k
def dens (L : Tab) : List SV → Option (List D)
  | [] => some []
  | v :: vs => match den L v, dens L vs with
    | some x, some xs => some (x :: xs)
    | _, _ => none
/-- freeze what is to be kept in data -/
def frzL (L : Tab) : List SV → Tab
  | [] => L
  | v :: vs => frzL (frzT L v) vs

section
variable (Γ : Calls) (gc : Nat → D)
mutual
def wpE : E → Bool → Env → Tab → KV → (Xn → Tab → Prop) → Prop
  | .non, _, _, L, k, _ => k (.d .non) L
  | .bl b, _, _, L, k, _ => k (.d (.bl b)) L
  | .int i, _, _, L, k, _ => k (.d (.int i)) L
  | .str s, _, _, L, k, _ => k (.d (.str s)) L
  | .var i, _, env, L, k, _ => match env[i]? with
    | some (some v) => k v L
    | _ => False
  | .gc n, _, _, L, k, _ => k (.d (gc n)) L
  | .bin op a b, m, env, L, k, z => wpE a false env L (fun x L1 => wpE b false env L1 (fun y L2 => match den L2 x, den L2 y with
      | some u, some v => opB op u v (resK m L2 k)
      | _, _ => False) z) z
  | .neg a, _, env, L, k, z => wpE a false env L (fun x L1 => match den L1 x with
      | some (.int i) => k (.d (.int (-i))) L1
      | _ => False) z
  | .cmp op a b, _, env, L, k, z => wpE a false env L (fun x L1 => wpE b false env L1 (fun y L2 => match den L2 x, den L2 y with
      | some u, some v => cmpD op u v fun r => k (.d (.bl r)) L2
      | _, _ => False) z) z
  | .chain o1 o2 a b c, _, env, L, k, z => wpE a false env L (fun x L1 => wpE b false env L1 (fun y L2 => match den L2 x, den L2 y with
      | some u, some v => cmpD o1 u v fun r => match r with
        | true => wpE c false env L2 (fun w L3 => match den L3 y, den L3 w with
          | some v', some w' => cmpD o2 v' w' fun r => k (.d (.bl r)) L3
          | _, _ => False) z
        | false => k (.d (.bl false)) L2
      | _, _ => False) z) z
  | .and a b, _, env, L, k, z => wpE a false env L (fun x L1 => match x with
      | .d (.bl c) => (c = true → wpE b false env L1 k z) ∧ (c = false → k (.d (.bl false)) L1)
      | _ => False) z
  | .or a b, _, env, L, k, z => wpE a false env L (fun x L1 => match x with
      | .d (.bl c) => (c = true → k (.d (.bl true)) L1) ∧ (c = false → wpE b false env L1 k z)
      | _ => False) z
  | .not a, _, env, L, k, z => wpE a false env L (fun x L1 => match x with
      | .d (.bl c) => k (.d (.bl (!c))) L1
      | _ => False) z
  | .ife c a b, m, env, L, k, z => wpT c env L (fun r L1 => (r = true → wpE a m env L1 k z) ∧ (r = false → wpE b m env L1 k z)) z
  | .call f as, m, env, L, k, z => wpEs as env L (fun xs L1 => match dens L1 xs with
      | some ds => Γ f ds (fun r => ((xs.any (owned L1) = true) → r.flat = true) ∧ rsK m L1 k r) (fun x => z x L1)
      | none => False) z
  | .bi f as, m, env, L, k, z => wpEs as env L (fun xs L1 => match dens L1 xs with
      | some ds => biD f ds (resK m L1 k)
      | none => False) z
  | .bm f o as, m, env, L, k, z => wpE o false env L (fun x L1 => match x with
      | .d (.str a) => wpEs as env L1 (fun xs L2 => match dens L2 xs with
        | some ds => bmD f a ds (resK m L2 k)
        | none => False) z
      | _ => False) z
  | .isi a t, _, env, L, k, z => wpE a false env L (fun x L1 => match den L1 x with
      | some u => match tyD u t with
        | some b => k (.d (.bl b)) L1
        | none => False
      | none => False) z
  | .idx a i, _, env, L, k, z => wpE a false env L (fun x L1 => wpE i false env L1 (fun y L2 => match den L2 x, den L2 y with
      | some u, some v => idxD u v fun r => k (.d r) L2
      | _, _ => False) z) z
  | .slc a lo hi, m, env, L, k, z => wpE a false env L (fun x L1 => wpE lo false env L1 (fun y L2 => match partD lo y with
      | some p => wpE hi false env L2 (fun w L3 => match partD hi w with
        | some q => match den L3 x with
          | some u => cutD u p q (resK m L3 k)
          | none => False
        | none => False) z
      | none => False) z) z
  | .rev a, m, env, L, k, z => wpE a false env L (fun x L1 => match den L1 x with
      | some (.lst ds) => mkL m ds.reverse L1 k
      | _ => False) z
  | .edict, m, _, L, k, _ => match m with
    | true => k (.c L.length) (L ++ [.ob (.kst [])])
    | false => k (.d (.dct [])) L
  | .tdict a b, _, env, L, k, z => wpE a false env L (fun x L1 => wpE b false env L1 (fun _ L2 => match x with
      | .d (.tup ds) => ds.all D.key = true ∧ k (.d (.dct [(.tup ds, .non)])) L2
      | _ => False) z) z
  | .lst as, m, env, L, k, z => wpEs as env L (fun xs L1 => match dens L1 xs with
      | some ds => ds.length ≤ sizeLine ∧ mkL m ds (frzL L1 xs) k
      | none => False) z
  | .tup as, _, env, L, k, z => wpEs as env L (fun xs L1 => match dens L1 xs with
      | some ds => ds.length ≤ sizeLine ∧ k (.d (.tup ds)) (frzL L1 xs)
      | none => False) z
  | .mklist a, m, env, L, k, z => wpE a false env L (fun x L1 => match den L1 x with
      | some u => match u.items with
        | some ds => mkL m ds L1 k
        | none => False
      | none => False) z
  | .mkrange a, m, env, L, k, z => wpE a false env L (fun x L1 => match den L1 x with
      | some (.int n) => -(2 ^ 20) < n ∧ n < 2 ^ 20 ∧ mkL m ((List.range n.toNat).map fun i => .int ((i : Nat) : Int)) L1 k
      | _ => False) z
  | .comp tg it elt cs, m, env, L, k, z => wpI it env L (fun items L1 => ∃ I : Nat → List D → Prop, I 0 [] ∧
      (∀ i x acc, items[i]? = some x → I i acc → tgD tg x (wipeE env (tgSlots tg)) fun env2 => wpC cs env2 L1 (fun b =>
        (b = true → wpE elt false env2 L1 (fun v L2 => ∃ d ex, L2 = L1 ++ ex ∧ den L2 v = some d ∧ (∀ j, v = .c j → L1.length ≤ j) ∧ acc.length < sizeLine ∧ I (i + 1) (acc ++ [d])) fun _ _ => False) ∧
        (b = false → I (i + 1) acc))) ∧ ∀ acc, I items.length acc → mkL m acc L1 k) z
  | .fld _ _, _, _, _, _, _ => False
def wpEs : Es → Env → Tab → (List SV → Tab → Prop) → (Xn → Tab → Prop) → Prop
  | .nil, _, L, k, _ => k [] L
  | .cons e es, env, L, k, z => wpE e false env L (fun x L1 => wpEs es env L1 (fun xs L2 => k (x :: xs) L2) z) z
/-- a test -/
def wpT : T → Env → Tab → (Bool → Tab → Prop) → (Xn → Tab → Prop) → Prop
  | .and a b, env, L, k, z => wpT a env L (fun c L1 => (c = true → wpT b env L1 k z) ∧ (c = false → k false L1)) z
  | .or a b, env, L, k, z => wpT a env L (fun c L1 => (c = true → k true L1) ∧ (c = false → wpT b env L1 k z)) z
  | .not a, env, L, k, z => wpT a env L (fun c L1 => k (!c) L1) z
  | .cmp op a b, env, L, k, z => wpE a false env L (fun x L1 => wpE b false env L1 (fun y L2 => match den L2 x, den L2 y with
      | some u, some v => cmpD op u v fun r => k r L2
      | _, _ => False) z) z
  | .chain o1 o2 a b c, env, L, k, z => wpE a false env L (fun x L1 => wpE b false env L1 (fun y L2 => match den L2 x, den L2 y with
      | some u, some v => cmpD o1 u v fun r => match r with
        | true => wpE c false env L2 (fun w L3 => match den L3 y, den L3 w with
          | some v', some w' => cmpD o2 v' w' fun r => k r L3
          | _, _ => False) z
        | false => k false L2
      | _, _ => False) z) z
  | .val e, env, L, k, z => wpE e false env L (fun x L1 => match den L1 x with
      | some u => truD u fun b => k b L1
      | none => False) z
/-- tests of a comprehension: the table stays -/
def wpC : Ts → Env → Tab → (Bool → Prop) → Prop
  | .nil, _, _, k => k true
  | .cons e .nil, env, L, k => wpT e env L (fun b L1 => (∃ ex, L1 = L ++ ex) ∧ k b) fun _ _ => False
  | .cons _ (.cons _ _), _, _, _ => False
def wpI : It → Env → Tab → (List D → Tab → Prop) → (Xn → Tab → Prop) → Prop
  | .seq e, env, L, k, z => wpE e false env L (fun x L1 => match den L1 x with
      | some (.str s) => k (s.cps.toList.map fun c => .str ⟨#[c]⟩) L1
      | some u => match u.items with
        | some ds => k ds (frzT L1 x)
        | none => False
      | none => False) z
  | .range1 b, env, L, k, z => wpE b false env L (fun x L1 => match den L1 x with
      | some (.int n) => -(2 ^ 62) ≤ n ∧ n < 2 ^ 62 ∧ k ((List.range n.toNat).map fun i => .int ((i : Nat) : Int)) L1
      | _ => False) z
  | .range2 a b, env, L, k, z => wpE a false env L (fun x L1 => wpE b false env L1 (fun y L2 => match den L2 x, den L2 y with
      | some (.int i), some (.int n) => (-(2 ^ 62) ≤ i ∧ i < 2 ^ 62 ∧ -(2 ^ 62) ≤ n ∧ n < 2 ^ 62) ∧ k ((List.range (n - i).toNat).map fun j => .int (i + (j : Nat))) L2
      | _, _ => False) z) z
  | .enum e, env, L, k, z => wpE e false env L (fun x L1 => match den L1 x with
      | some (.lst ds) => k (ds.zipIdx.map fun p => .tup [.int (p.2 : Nat), p.1]) (frzT L1 x)
      | _ => False) z
  | .zip a b, env, L, k, z => wpE a false env L (fun x L1 => wpE b false env L1 (fun y L2 => match den L2 x, den L2 y with
      | some (.lst ds), some (.lst es) => k ((ds.zip es).map fun p => .tup [p.1, p.2]) (frzT (frzT L2 x) y)
      | _, _ => False) z) z
  | .reversed e, env, L, k, z => wpE e false env L (fun x L1 => match den L1 x with
      | some (.lst ds) => k ds.reverse (frzT L1 x)
      | _ => False) z
end
end

/-! ## statements -/
def putI (ks : List Int) (n : Int) : List Int := if n ∈ ks then ks else ks ++ [n]
structure Ko where
  nx : Env → Tab → Prop
  rt : SV → Tab → Prop
  bk : Env → Tab → Prop
  ct : Env → Tab → Prop
  z : Xn → Env → Tab → Prop
def frzSlots : List Nat → Env → Tab → Env × Tab
  | [], env, L => (env, L)
  | i :: is, env, L => match env[i]? with
    | some (some (.c j)) => match L[j]? with
      | some ct => frzSlots is (env.set i (some (.d ct.dat))) (L.set j (.fz ct.dat))
      | none => frzSlots is (env.set i none) L
    | _ => frzSlots is env L
def cutV1 (n : Nat) : Option SV → Option SV
  | some (.c j) => if j < n then some (.c j) else none
  | v => v
/-- at a loop's head: the slots that the body gives anew are frozen, new cells dropped -/
def nrmE (sl : List Nat) (n : Nat) (env : Env) (L : Tab) : Env := (frzSlots sl env L).1.map (cutV1 n)
def nrmT (sl : List Nat) (n : Nat) (env : Env) (L : Tab) : Tab := (frzSlots sl env L).2.take n
section
variable (Γ : Calls) (gc : Nat → D)
mutual
def wpS : S → Env → Tab → Ko → Prop
  | .asg (.v i) e, env, L, K => wpE Γ gc e false env L (fun v L1 => K.nx (setS env i v) L1) (fun x => K.z x env)
  | .asg (.t is) e, env, L, K => wpE Γ gc e false env L (fun v L1 => match den L1 v with
      | some (.tup ds) => is.length = ds.length ∧ K.nx (setAll env is ds) L1
      | some (.lst ds) => is.length = ds.length ∧ K.nx (setAll env is ds) L1
      | _ => False) (fun x => K.z x env)
  | .own i e, env, L, K => wpE Γ gc e true env L (fun v L1 => K.nx (setS env i v) L1) (fun x => K.z x env)
  | .par i j a b, env, L, K => wpE Γ gc a false env L (fun v L1 => wpE Γ gc b false env L1 (fun w L2 => K.nx (setS (setS env i v) j w) L2) (fun x => K.z x env)) (fun x => K.z x env)
  | .aug i op e, env, L, K => match env[i]? with
      | some (some x) => wpE Γ gc e false env L (fun y L1 => match x, y with
          | .d (.int a), .d (.int b) => match op with
            | .add => K.nx (setS env i (.d (.int (a + b)))) L1
            | .sub => K.nx (setS env i (.d (.int (a - b)))) L1
            | _ => False
          | _, _ => False) (fun x => K.z x env)
      | _ => False
  | .setix x i e, env, L, K => match env[x]? with
      | some (some (.c j)) => wpE Γ gc e false env L (fun v L1 => wpE Γ gc i false env L1 (fun w L2 => match w, den L2 v with
        | .d (.int n), some d => ∃ ds k, (frzT L2 v)[j]? = some (.lst ds) ∧ ixN ds.length n = some k ∧ K.nx env ((frzT L2 v).set j (.lst (ds.set k d)))
        | _, _ => False) (fun x => K.z x env)) (fun x => K.z x env)
      | _ => False
  | .setk x i, env, L, K => match env[x]? with
      | some (some (.c j)) => wpE Γ gc i false env L (fun w L1 => match w with
        | .d (.int n) => ∃ ks, L1[j]? = some (.ob (.kst ks)) ∧ ks.length < sizeLine ∧ K.nx env (L1.set j (.ob (.kst (putI ks n))))
        | _ => False) (fun x => K.z x env)
      | _ => False
  | .append x e, env, L, K => match env[x]? with
      | some (some (.c j)) => (∃ ds, L[j]? = some (.lst ds)) ∧ wpE Γ gc e false env L (fun v L1 => match den L1 v with
        | some d => ∃ ds, (frzT L1 v)[j]? = some (.lst ds) ∧ ds.length < sizeLine ∧ K.nx env ((frzT L1 v).set j (.lst (ds ++ [d])))
        | none => False) (fun x => K.z x env)
      | _ => False
  | .extend x e, env, L, K => match env[x]? with
      | some (some (.c j)) => (∃ ds, L[j]? = some (.lst ds)) ∧ wpE Γ gc e false env L (fun v L1 => match den L1 v with
        | some (.lst es) => ∃ ds, (frzT L1 v)[j]? = some (.lst ds) ∧ ds.length + es.length ≤ sizeLine ∧ K.nx env ((frzT L1 v).set j (.lst (ds ++ es)))
        | _ => False) (fun x => K.z x env)
      | _ => False
  | .ret e, env, L, K => wpE Γ gc e false env L K.rt (fun x => K.z x env)
  | .retO e, env, L, K => wpE Γ gc e true env L K.rt (fun x => K.z x env)
  | .retN, _, L, K => K.rt (.d .non) L
  | .expr e, env, L, K => wpE Γ gc e false env L (fun _ L1 => K.nx env L1) (fun x => K.z x env)
  | .ife c a b, env, L, K => wpT Γ gc c env L (fun r L1 => (r = true → wpSs a env L1 K) ∧ (r = false → wpSs b env L1 K)) (fun x => K.z x env)
  | .for_ tg it sl body, env, L, K => wpI Γ gc it env L (fun items L1 => ∃ I : Nat → Env → Tab → Prop, I 0 (nrmE sl L1.length env L1) (nrmT sl L1.length env L1) ∧
      (∀ i x e l, items[i]? = some x → I i e l → tgD tg x e fun e2 => wpSs body e2 l
        ⟨fun e' l' => I (i + 1) (nrmE sl L1.length e' l') (nrmT sl L1.length e' l'), K.rt, K.nx, fun e' l' => I (i + 1) (nrmE sl L1.length e' l') (nrmT sl L1.length e' l'), K.z⟩) ∧
      ∀ e l, I items.length e l → K.nx e l) (fun x => K.z x env)
  | .while_ c sl body, env, L, K => ∃ I : Nat → Env → Tab → Prop, (∃ m, I m (nrmE sl L.length env L) (nrmT sl L.length env L)) ∧
      ∀ m e l, I m e l → wpT Γ gc c e l (fun b l1 => (b = true → wpSs body e l1
        ⟨fun e' l' => ∃ m', m' < m ∧ I m' (nrmE sl L.length e' l') (nrmT sl L.length e' l'), K.rt, K.nx, fun e' l' => ∃ m', m' < m ∧ I m' (nrmE sl L.length e' l') (nrmT sl L.length e' l'), K.z⟩) ∧
        (b = false → K.nx e l1)) (fun x => K.z x e)
  | .raise _ _, _, _, _ => False
  | .frz i, env, L, K => K.nx (frzSlots [i] env L).1 (frzSlots [i] env L).2
  | .never, _, _, _ => False
  | .pass, env, L, K => K.nx env L
def wpSs : Ss → Env → Tab → Ko → Prop
  | .nil, env, L, K => K.nx env L
  | .cons s ss, env, L, K => wpS s env L ⟨fun e l => wpSs ss e l K, K.rt, K.bk, K.ct, K.z⟩
end
end
structure Fn where
  slots : Nat
  params : Nat
  body : Ss
  own : Bool
def back (own : Bool) (k : Rs → Prop) (v : SV) (L : Tab) : Prop := match v with
  | .d x => k (.v x)
  | .c j => match L[j]? with
    | some (.lst ds) => match own with
      | true => k (.new ds)
      | false => k (.v (.lst ds))
    | some (.ob u) => k (.v u)
    | some (.fz x) => k (.v x)
    | none => False
def startE (F : Fn) (ds : List D) : Env := ds.map (fun x => some (.d x)) ++ List.replicate (F.slots - F.params) none
def wpF (P : Nat → Option Fn) (gc : Nat → D) : Nat → Calls
  | 0 => fun _ _ _ _ => False
  | n + 1 => fun f ds k z => match P f with
    | none => False
    | some F => ds.length = F.params ∧ wpSs (wpF P gc n) gc F.body (startE F ds) [] ⟨fun _ _ => k (.v .non), back F.own k, fun _ _ => False, fun _ _ => False, fun x _ _ => z x⟩
end PD

namespace PD
open PySem L2

/-! ## data and the heap -/
structure Gs where
  K : PySem.W.Frag
  cA : Nat → Addr
  fN : Nat → Str
mutual
inductive Rep (G : Gs) (H : Hp) : V → D → Prop
  | non : Rep G H .non .non
  | bl (b : Bool) : Rep G H (.bl b) (.bl b)
  | int (i : Int) : Rep G H (.int i) (.int i)
  | str (s : Str) : Rep G H (.str s) (.str s)
  | lst {a : Addr} {vs : List V} {ds : List D} : H a = some (.lst vs) → RepL G H vs ds → Rep G H (.ref a) (.lst ds)
  | tup {a : Addr} {vs : List V} {ds : List D} : H a = some (.tup vs) → RepL G H vs ds → Rep G H (.ref a) (.tup ds)
  | scr {a : Addr} {ns : List Int} : SqL G.K H a (ns.map V.int) → Rep G H (.ref a) (.scr ns)
  | kst {a : Addr} {ks : List Int} : H a = some (.dK (ks.map fun i => ((Sum.inl i : Key), V.bl true))) → Rep G H (.ref a) (.kst ks)
  | dct {a : Addr} : H a = some (.dK []) → Rep G H (.ref a) (.dct [])
  | dctT {a : Addr} {kvs : List (List Key × V)} {x : D × D} : H a = some (.dT kvs) → Rep G H (.ref a) (.dct [x])
  | obj {a dx : Addr} {c : Nat} {gs : List (Str × V)} {fs : List (Nat × D)} : H a = some (.ins (G.cA c) dx gs) → RepF G H gs fs → Rep G H (.ref a) (.obj c fs)
inductive RepL (G : Gs) (H : Hp) : List V → List D → Prop
  | nil : RepL G H [] []
  | cons {v : V} {vs : List V} {d : D} {ds : List D} : Rep G H v d → RepL G H vs ds → RepL G H (v :: vs) (d :: ds)
inductive RepF (G : Gs) (H : Hp) : List (Str × V) → List (Nat × D) → Prop
  | nil : RepF G H [] []
  | cons {f : Nat} {v : V} {gs : List (Str × V)} {d : D} {fs : List (Nat × D)} : Rep G H v d → RepF G H gs fs → RepF G H ((G.fN f, v) :: gs) ((f, d) :: fs)
end
section
variable {G : Gs} {H H' : Hp}
mutual
theorem Rep.mono (e : Same H H') : ∀ {v : V} {d : D}, Rep G H v d → Rep G H' v d
  | _, _, .non => .non
  | _, _, .bl b => .bl b
  | _, _, .int i => .int i
  | _, _, .str s => .str s
  | _, _, .lst h r => .lst (e _ _ h) (RepL.mono e r)
  | _, _, .tup h r => .tup (e _ _ h) (RepL.mono e r)
  | _, _, .scr h => .scr (e.seq h)
  | _, _, .kst h => .kst (e _ _ h)
  | _, _, .dct h => .dct (e _ _ h)
  | _, _, .dctT h => .dctT (e _ _ h)
  | _, _, .obj h r => .obj (e _ _ h) (RepF.mono e r)
theorem RepL.mono (e : Same H H') : ∀ {vs : List V} {ds : List D}, RepL G H vs ds → RepL G H' vs ds
  | _, _, .nil => .nil
  | _, _, .cons r t => .cons (Rep.mono e r) (RepL.mono e t)
theorem RepF.mono (e : Same H H') : ∀ {gs : List (Str × V)} {fs : List (Nat × D)}, RepF G H gs fs → RepF G H' gs fs
  | _, _, .nil => .nil
  | _, _, .cons r t => .cons (Rep.mono e r) (RepF.mono e t)
end
theorem RepL.length : ∀ {vs : List V} {ds : List D}, RepL G H vs ds → vs.length = ds.length
  | _, _, .nil => rfl
  | _, _, .cons _ t => by simp [RepL.length t]
theorem RepL.append : ∀ {vs ws : List V} {ds es : List D}, RepL G H vs ds → RepL G H ws es → RepL G H (vs ++ ws) (ds ++ es)
  | _, _, _, _, .nil, s => s
  | _, _, _, _, .cons r t, s => .cons r (RepL.append t s)
theorem RepL.get : ∀ {vs : List V} {ds : List D} {i : Nat} {d : D}, RepL G H vs ds → ds[i]? = some d → ∃ v, vs[i]? = some v ∧ Rep G H v d
  | _, _, _, _, .nil, e => by simp at e
  | _, _, 0, _, .cons r _, e => by simp at e; subst e; exact ⟨_, rfl, r⟩
  | _, _, i + 1, _, .cons _ t, e => by
    obtain ⟨v, h1, h2⟩ := RepL.get (i := i) t (by simpa using e)
    exact ⟨v, by simpa using h1, h2⟩
theorem RepL.getV : ∀ {vs : List V} {ds : List D} {i : Nat} {v : V}, RepL G H vs ds → vs[i]? = some v → ∃ d, ds[i]? = some d ∧ Rep G H v d
  | _, _, _, _, .nil, e => by simp at e
  | _, _, 0, _, .cons r _, e => by simp at e; subst e; exact ⟨_, rfl, r⟩
  | _, _, i + 1, _, .cons _ t, e => by
    obtain ⟨v, h1, h2⟩ := RepL.getV (i := i) t (by simpa using e)
    exact ⟨v, by simpa using h1, h2⟩
theorem RepL.set {v : V} {d : D} (r : Rep G H v d) : ∀ {vs : List V} {ds : List D} (i : Nat), RepL G H vs ds → RepL G H (vs.set i v) (ds.set i d)
  | _, _, _, .nil => .nil
  | _, _, 0, .cons _ t => .cons r t
  | _, _, i + 1, .cons q t => .cons q (RepL.set r i t)
theorem RepL.take : ∀ {vs : List V} {ds : List D} (n : Nat), RepL G H vs ds → RepL G H (vs.take n) (ds.take n)
  | _, _, 0, _ => .nil
  | _, _, _ + 1, .nil => .nil
  | _, _, n + 1, .cons r t => .cons r (RepL.take n t)
theorem RepL.drop : ∀ {vs : List V} {ds : List D} (n : Nat), RepL G H vs ds → RepL G H (vs.drop n) (ds.drop n)
  | _, _, 0, r => r
  | _, _, _ + 1, .nil => .nil
  | _, _, n + 1, .cons _ t => RepL.drop n t
theorem RepL.reverse : ∀ {vs : List V} {ds : List D}, RepL G H vs ds → RepL G H vs.reverse ds.reverse
  | _, _, .nil => .nil
  | _, _, .cons r t => by
    simp only [List.reverse_cons]
    exact RepL.append (RepL.reverse t) (.cons r .nil)
theorem RepL.rep {vs : List V} {ds : List D} (h : RepL G H vs ds) : ∀ k : Nat, RepL G H (List.replicate k vs).flatten (List.replicate k ds).flatten
  | 0 => .nil
  | k + 1 => by
    simp only [List.replicate_succ, List.flatten_cons]
    exact RepL.append h (RepL.rep h k)
theorem RepL.ints : ∀ (ns : List Int), RepL G H (ns.map V.int) (ns.map D.int)
  | [] => .nil
  | n :: ns => .cons (.int n) (RepL.ints ns)
theorem RepL.ofInts : ∀ {vs : List V} {ns : List Int}, RepL G H vs (ns.map D.int) → vs = ns.map V.int
  | _, [], .nil => rfl
  | _, n :: ns, .cons r t => by
    cases r
    rw [RepL.ofInts t]
    rfl
theorem RepL.ofBls : ∀ {vs : List V} {ns : List Bool}, RepL G H vs (ns.map D.bl) → vs = ns.map V.bl
  | _, [], .nil => rfl
  | _, n :: ns, .cons r t => by
    cases r
    rw [RepL.ofBls t]
    rfl
theorem RepL.ofStrs : ∀ {vs : List V} {ns : List Str}, RepL G H vs (ns.map D.str) → vs = ns.map V.str
  | _, [], .nil => rfl
  | _, n :: ns, .cons r t => by
    cases r
    rw [RepL.ofStrs t]
    rfl
theorem Rep.ofFlat {v : V} {d : D} (h : d.flat = true) (r : Rep G H v d) (H2 : Hp) : Rep G H2 v d := by
  cases r with
  | non => exact .non
  | bl b => exact .bl b
  | int b => exact .int b
  | str b => exact .str b
  | lst _ _ => cases h
  | tup _ _ => cases h
  | scr _ => cases h
  | kst _ => cases h
  | dct _ => cases h
  | dctT _ => cases h
  | obj _ _ => cases h
theorem RepL.ofFlat (H2 : Hp) : ∀ {vs : List V} {ds : List D}, ds.all D.flat = true → RepL G H vs ds → RepL G H2 vs ds
  | _, _, _, .nil => .nil
  | _, _, h, .cons r t => by
    rw [List.all_cons, Bool.and_eq_true] at h
    exact .cons (r.ofFlat h.1 H2) (RepL.ofFlat H2 h.2 t)
end

/-- a value of a slot -/
def RepS (G : Gs) (Hb : Hp) (ad : List Addr) (v : V) : SV → Prop
  | .d x => Rep G Hb v x
  | .c j => ∃ a, ad[j]? = some a ∧ v = .ref a
/-- what an own object holds -/
def OwnR (G : Gs) (Hb : Hp) : HO → Ct → Prop
  | .lst vs, .lst ds => RepL G Hb vs ds
  | .dK kvs, .ob (.kst ks) => kvs = ks.map fun i => ((Sum.inl i : Key), V.bl true)
  | .ins C _ gs, .ob (.obj c fs) => C = G.cA c ∧ RepF G Hb gs fs
  | _, _ => False
theorem OwnR.mono {G : Gs} {H H' : Hp} (e : Same H H') {o : HO} {ct : Ct} (h : OwnR G H o ct) : OwnR G H' o ct := by
  cases ct with
  | fz x => cases o <;> exact h.elim
  | lst ds => cases o <;> first | exact h.elim | exact RepL.mono e h
  | ob u =>
    cases u
    case kst ks => cases o <;> first | exact h.elim | exact h
    case obj c fs => cases o <;> first | exact h.elim | exact ⟨h.1, RepF.mono e h.2⟩
    all_goals (cases o <;> exact h.elim)
theorem OwnR.rep {G : Gs} {H : Hp} {a : Addr} {o : HO} {ct : Ct} (e : H a = some o) (h : OwnR G H o ct) : Rep G H (.ref a) ct.dat := by
  cases ct with
  | fz x => cases o <;> exact h.elim
  | lst ds => cases o <;> first | exact h.elim | exact .lst e h
  | ob u =>
    cases u
    case kst ks =>
      cases o <;> first | exact h.elim | skip
      exact .kst (e.trans (congrArg (fun z => some (HO.dK z)) h))
    case obj c fs =>
      cases o <;> first | exact h.elim | skip
      obtain ⟨rfl, r⟩ := h
      exact .obj e r
    all_goals (cases o <;> exact h.elim)
structure Rel (G : Gs) (Hb H : Hp) (ad : List Addr) (L : Tab) : Prop where
  ext : Same Hb H
  len : ad.length = L.length
  nd : ad.Nodup
  own : ∀ (j : Nat) (ct : Ct) (a : Addr), L[j]? = some ct → ad[j]? = some a → ct.live = true → Hb a = none ∧ ∃ o, H a = some o ∧ OwnR G Hb o ct
  ina : ∀ a ∈ ad, H a ≠ none
  fz : ∀ (j : Nat) (x : D) (a : Addr), L[j]? = some (.fz x) → ad[j]? = some a → Rep G Hb (.ref a) x
structure EnvR (G : Gs) (Hb : Hp) (ad : List Addr) (env : Env) (σ : St) : Prop where
  len : env.length = σ.length
  at_ : ∀ (i : Nat) (sv : SV), env[i]? = some (some sv) → ∃ v, σ[i]? = some (some v) ∧ RepS G Hb ad v sv
structure Stp (Hb H : Hp) (ad : List Addr) (Hb' H' : Hp) (ad' : List Addr) : Prop where
  base : Same Hb Hb'
  new : ∃ ns, ad' = ad ++ ns ∧ ∀ a ∈ ns, H a = none
  keep : ∀ a o, H a = some o → a ∉ ad → H' a = some o
  bas : ∀ a, Hb a = none → Hb' a ≠ none → H a = none ∨ a ∈ ad
  there : ∀ a, H' a = none → H a = none
section
variable {G : Gs} {Hb Hb1 Hb2 H H1 H2 : Hp} {ad ad1 ad2 : List Addr} {L : Tab} {env : Env} {σ : St} {v : V} {sv : SV}
theorem Stp.refl : Stp Hb H ad Hb H ad := ⟨Same.refl _, ⟨[], by simp, fun _ h => nomatch h⟩, fun _ _ h _ => h, fun _ h h' => absurd h h', fun _ h => h⟩
theorem Stp.trans (a : Stp Hb H ad Hb1 H1 ad1) (b : Stp Hb1 H1 ad1 Hb2 H2 ad2) : Stp Hb H ad Hb2 H2 ad2 := by
  obtain ⟨n1, e1, f1⟩ := a.new
  obtain ⟨n2, e2, f2⟩ := b.new
  refine ⟨a.base.trans b.base, ⟨n1 ++ n2, by rw [e2, e1, List.append_assoc], fun x hx => ?_⟩, fun x o h hn => ?_, fun x h h' => ?_, fun x h => a.there x (b.there x h)⟩
  · rcases List.mem_append.mp hx with hx | hx
    · exact f1 x hx
    · exact a.there x (f2 x hx)
  · have h1 := a.keep x o h hn
    refine b.keep x o h1 fun hm => ?_
    rw [e1] at hm
    rcases List.mem_append.mp hm with hm | hm
    · exact hn hm
    · rw [f1 x hm] at h; cases h
  · cases q : Hb1 x with
    | some o => exact a.bas x h (by rw [q]; simp)
    | none =>
      rcases b.bas x q h' with h1 | h1
      · exact .inl (a.there x h1)
      · rw [e1] at h1
        rcases List.mem_append.mp h1 with h1 | h1
        · exact .inr h1
        · exact .inl (f1 x h1)
theorem Stp.pre (a : Stp Hb H ad Hb1 H1 ad1) {j : Nat} {x : Addr} (h : ad[j]? = some x) : ad1[j]? = some x := by
  obtain ⟨ns, e, _⟩ := a.new
  obtain ⟨hj, _⟩ := List.getElem?_eq_some_iff.mp h
  rw [e, List.getElem?_append_left hj]
  exact h
/-- a slot's value stays -/
theorem RepS.step (a : Stp Hb H ad Hb1 H1 ad1) (r : RepS G Hb ad v sv) : RepS G Hb1 ad1 v sv := by
  cases sv with
  | d x => exact Rep.mono a.base r
  | c j =>
    obtain ⟨x, h1, h2⟩ := r
    exact ⟨x, a.pre h1, h2⟩
theorem EnvR.step (a : Stp Hb H ad Hb1 H1 ad1) (r : EnvR G Hb ad env σ) : EnvR G Hb1 ad1 env σ :=
  ⟨r.len, fun i sv h => let ⟨v, h1, h2⟩ := r.at_ i sv h; ⟨v, h1, h2.step a⟩⟩
theorem EnvR.set (r : EnvR G Hb ad env σ) (i : Nat) (q : RepS G Hb ad v sv) : EnvR G Hb ad (setS env i sv) (σ.set i (some v)) := by
  refine ⟨by simp [setS, r.len], fun j sw h => ?_⟩
  unfold setS at h
  by_cases hj : j = i
  · subst hj
    by_cases hl : j < env.length
    · rw [List.getElem?_set_self hl] at h
      cases h
      exact ⟨v, by rw [List.getElem?_set_self (by rw [← r.len]; exact hl)], q⟩
    · rw [List.getElem?_eq_none (by simp; omega)] at h; cases h
  · rw [List.getElem?_set_ne (Ne.symm hj)] at h
    obtain ⟨w, h1, h2⟩ := r.at_ j sw h
    exact ⟨w, by rw [List.getElem?_set_ne (Ne.symm hj)]; exact h1, h2⟩
theorem EnvR.unset (r : EnvR G Hb ad env σ) (i : Nat) : EnvR G Hb ad (env.set i none) σ := by
  refine ⟨by simp [r.len], fun j sw h => ?_⟩
  by_cases hj : j = i
  · subst hj
    by_cases hl : j < env.length
    · rw [List.getElem?_set_self hl] at h; cases h
    · rw [List.getElem?_eq_none (by simp; omega)] at h; cases h
  · rw [List.getElem?_set_ne (Ne.symm hj)] at h
    exact r.at_ j sw h
theorem EnvR.wipe : ∀ (is : List Nat), EnvR G Hb ad env σ → EnvR G Hb ad (wipeE env is) (L2.wipe σ is)
  | [], r => r
  | i :: is, r => by
    have q := EnvR.wipe is r
    unfold wipeE L2.wipe
    refine ⟨by simp [q.len], fun j sw h => ?_⟩
    by_cases hj : j = i
    · subst hj
      by_cases hl : j < (wipeE env is).length
      · rw [List.getElem?_set_self hl] at h; cases h
      · rw [List.getElem?_eq_none (by simp; omega)] at h; cases h
    · rw [List.getElem?_set_ne (Ne.symm hj)] at h
      obtain ⟨w, h1, h2⟩ := q.at_ j sw h
      exact ⟨w, by rw [List.getElem?_set_ne (Ne.symm hj)]; exact h1, h2⟩

theorem Rel.cell (R : Rel G Hb H ad L) (j : Nat) (ds : List D) (a : Addr) (h : L[j]? = some (.lst ds)) (h' : ad[j]? = some a) : Hb a = none ∧ ∃ vs, H a = some (.lst vs) ∧ RepL G Hb vs ds := by
  obtain ⟨h0, o, h1, h2⟩ := R.own j _ a h h' rfl
  cases o <;> first | exact h2.elim | exact ⟨h0, _, h1, h2⟩
/-- what is read: data of the base, or an own object's -/
def Pk (G : Gs) (Hb H : Hp) (v : V) (u : D) : Prop := Rep G Hb v u ∨ ∃ a o ct, v = .ref a ∧ u = ct.dat ∧ H a = some o ∧ OwnR G Hb o ct
theorem Rel.read {u : D} (R : Rel G Hb H ad L) (r : RepS G Hb ad v sv) (e : den L sv = some u) : Pk G Hb H v u := by
  cases sv with
  | d x => cases e; exact .inl r
  | c j =>
    obtain ⟨a, h1, rfl⟩ := r
    unfold den at e
    cases q : L[j]? with
    | none => simp only [q] at e; cases e
    | some ct =>
      simp only [q] at e
      cases ct with
      | lst ds =>
        cases e
        obtain ⟨_, o, h2, h3⟩ := R.own j _ a q h1 rfl
        exact .inr ⟨a, o, _, rfl, rfl, h2, h3⟩
      | ob u =>
        cases e
        obtain ⟨_, o, h2, h3⟩ := R.own j _ a q h1 rfl
        exact .inr ⟨a, o, _, rfl, rfl, h2, h3⟩
      | fz x =>
        cases e
        exact .inl (R.fz j x a q h1)
/-- no own object is read so -/
def D.ownK : D → Bool
  | .lst _ => true | .kst _ => true | .obj _ _ => true | _ => false
theorem OwnR.ownK {o : HO} {ct : Ct} (h : OwnR G Hb o ct) : ct.dat.ownK = true := by
  cases ct with
  | fz x => cases o <;> exact h.elim
  | lst ds => rfl
  | ob u =>
    cases u <;> first | rfl | (cases o <;> exact h.elim)
theorem Pk.base {u : D} (h : Pk G Hb H v u) (n : u.ownK = false) : Rep G Hb v u := by
  rcases h with h | ⟨a, o, ct, _, rfl, _, h2⟩
  · exact h
  · rw [h2.ownK] at n; cases n
theorem Pk.int {i : Int} (h : Pk G Hb H v (.int i)) : v = .int i := by cases h.base rfl; rfl
theorem Pk.bl {i : Bool} (h : Pk G Hb H v (.bl i)) : v = .bl i := by cases h.base rfl; rfl
theorem Pk.str {i : Str} (h : Pk G Hb H v (.str i)) : v = .str i := by cases h.base rfl; rfl
theorem Pk.non (h : Pk G Hb H v .non) : v = .non := by cases h.base rfl; rfl
theorem OwnR.lst' {o : HO} {ct : Ct} {ds : List D} (h : OwnR G Hb o ct) (e : D.lst ds = ct.dat) : ∃ vs, o = .lst vs ∧ RepL G Hb vs ds := by
  cases ct with
  | fz x => cases o <;> exact h.elim
  | lst es => cases e; cases o <;> first | exact h.elim | exact ⟨_, rfl, h⟩
  | ob u => cases e; cases o <;> exact h.elim
theorem OwnR.kst' {o : HO} {ct : Ct} {ks : List Int} (h : OwnR G Hb o ct) (e : D.kst ks = ct.dat) : o = .dK (ks.map fun i => ((Sum.inl i : Key), V.bl true)) := by
  cases ct with
  | fz x => cases o <;> exact h.elim
  | lst es => cases e
  | ob u => cases e; cases o <;> first | exact h.elim | exact congrArg HO.dK h
theorem OwnR.obj' {o : HO} {ct : Ct} {c : Nat} {fs : List (Nat × D)} (h : OwnR G Hb o ct) (e : D.obj c fs = ct.dat) : ∃ dx gs, o = .ins (G.cA c) dx gs ∧ RepF G Hb gs fs := by
  cases ct with
  | fz x => cases o <;> exact h.elim
  | lst es => cases e
  | ob u =>
    cases e
    cases o <;> first | exact h.elim | skip
    obtain ⟨rfl, r⟩ := h
    exact ⟨_, _, rfl, r⟩
theorem Pk.lst {ds : List D} (e : Same Hb H) (h : Pk G Hb H v (.lst ds)) : ∃ a vs, v = .ref a ∧ H a = some (.lst vs) ∧ RepL G Hb vs ds := by
  rcases h with h | ⟨a, o, ct, h1, h2, h3, h4⟩
  · cases h with
    | lst h1 h2 => exact ⟨_, _, rfl, e _ _ h1, h2⟩
  · obtain ⟨vs, rfl, r⟩ := h4.lst' h2
    exact ⟨a, vs, h1, h3, r⟩
theorem Pk.tup {ds : List D} (e : Same Hb H) (h : Pk G Hb H v (.tup ds)) : ∃ a vs, v = .ref a ∧ H a = some (.tup vs) ∧ RepL G Hb vs ds := by
  cases h.base rfl with
  | tup h1 h2 => exact ⟨_, _, rfl, e _ _ h1, h2⟩
theorem Pk.scr {ns : List Int} (e : Same Hb H) (h : Pk G Hb H v (.scr ns)) : ∃ a, v = .ref a ∧ SqL G.K H a (ns.map V.int) := by
  cases h.base rfl with
  | scr h1 => exact ⟨_, rfl, e.seq h1⟩
theorem Pk.kst {ks : List Int} (e : Same Hb H) (h : Pk G Hb H v (.kst ks)) : ∃ a, v = .ref a ∧ H a = some (.dK (ks.map fun i => ((Sum.inl i : Key), V.bl true))) := by
  rcases h with h | ⟨a, o, ct, h1, h2, h3, h4⟩
  · cases h with
    | kst h1 => exact ⟨_, rfl, e _ _ h1⟩
  · have := h4.kst' h2
    subst this
    exact ⟨a, h1, h3⟩
theorem Pk.obj {c : Nat} {fs : List (Nat × D)} (e : Same Hb H) (h : Pk G Hb H v (.obj c fs)) : ∃ a dx gs, v = .ref a ∧ H a = some (.ins (G.cA c) dx gs) ∧ RepF G Hb gs fs := by
  rcases h with h | ⟨a, o, ct, h1, h2, h3, h4⟩
  · cases h with
    | obj h1 h2 => exact ⟨_, _, _, rfl, e _ _ h1, h2⟩
  · obtain ⟨dx, gs, rfl, r⟩ := h4.obj' h2
    exact ⟨a, dx, gs, h1, h3, r⟩
theorem Pk.toH {u : D} (e : Same Hb H) (h : Pk G Hb H v u) : Rep G H v u := by
  rcases h with h | ⟨a, o, ct, rfl, rfl, h3, h4⟩
  · exact h.mono e
  · exact (h4.mono e).rep h3
theorem frzT_lst {L : Tab} {j : Nat} {ds : List D} (q : L[j]? = some (.lst ds)) : frzT L (.c j) = L.set j (.fz (.lst ds)) := by simp only [frzT, q]
theorem frzT_ob {L : Tab} {j : Nat} {u : D} (q : L[j]? = some (.ob u)) : frzT L (.c j) = L.set j (.fz u) := by simp only [frzT, q]
theorem frzT_live {L : Tab} {j : Nat} {ct : Ct} (q : L[j]? = some ct) (h : ct.live = true) : frzT L (.c j) = L.set j (.fz ct.dat) := by
  cases ct with
  | fz x => cases h
  | lst ds => exact frzT_lst q
  | ob u => exact frzT_ob q
theorem frzT_fz {L : Tab} {j : Nat} {x : D} (q : L[j]? = some (.fz x)) : frzT L (.c j) = L := by simp only [frzT, q]
theorem frzT_no {L : Tab} {j : Nat} (q : L[j]? = none) : frzT L (.c j) = L := by simp only [frzT, q]
theorem den_c {L : Tab} {j : Nat} {ct : Ct} (q : L[j]? = some ct) : den L (.c j) = some ct.dat := by simp only [den, q]
theorem den_no {L : Tab} {j : Nat} (q : L[j]? = none) : den L (.c j) = none := by simp only [den, q]
theorem den_frzT (L : Tab) (a b : SV) : den (frzT L a) b = den L b := by
  cases a with
  | d x => rfl
  | c j =>
    cases q : L[j]? with
    | none => rw [frzT_no q]
    | some ct =>
      cases lv : ct.live with
      | false =>
        cases ct with
        | fz x => rw [frzT_fz q]
        | lst ds => cases lv
        | ob u => cases lv
      | true =>
        rw [frzT_live q lv]
        cases b with
        | d x => rfl
        | c i =>
          by_cases h : i = j
          · subst h
            obtain ⟨hl, _⟩ := List.getElem?_eq_some_iff.mp q
            rw [den_c q, den_c (List.getElem?_set_self hl)]
            rfl
          · cases q2 : L[i]? with
            | none => rw [den_no q2, den_no (by rw [List.getElem?_set_ne (Ne.symm h)]; exact q2)]
            | some ct => rw [den_c q2, den_c (by rw [List.getElem?_set_ne (Ne.symm h)]; exact q2)]
theorem ad_inj {l : List Addr} (nd : l.Nodup) {i j : Nat} {a : Addr} (h : l[i]? = some a) (h' : l[j]? = some a) : i = j := by
  obtain ⟨h1, e1⟩ := List.getElem?_eq_some_iff.mp h
  obtain ⟨h2, e2⟩ := List.getElem?_eq_some_iff.mp h'
  exact (List.getElem_inj nd).mp (e1.trans e2.symm)
theorem Rel.freeze {u : D} (R : Rel G Hb H ad L) (r : RepS G Hb ad v sv) (e : den L sv = some u) :
    ∃ Hb', Rel G Hb' H ad (frzT L sv) ∧ Stp Hb H ad Hb' H ad ∧ Rep G Hb' v u := by
  cases sv with
  | d x => cases e; exact ⟨Hb, R, Stp.refl, r⟩
  | c j =>
    obtain ⟨a, h1, rfl⟩ := r
    cases q : L[j]? with
    | none => rw [den_no q] at e; cases e
    | some ct =>
      rw [den_c q] at e
      cases lv : ct.live with
      | false =>
        cases ct with
        | fz x => cases e; rw [frzT_fz q]; exact ⟨Hb, R, Stp.refl, R.fz j x a q h1⟩
        | lst ds => cases lv
        | ob u => cases lv
      | true =>
        cases e
        rw [frzT_live q lv]
        obtain ⟨h0, oo, h2, h3⟩ := R.own j ct a q h1 lv
        have sm : Same Hb (upd Hb a oo) := fun b o hb => by
          rw [upd_ne (ne_of_none hb h0)]; exact hb
        obtain ⟨hl, _⟩ := List.getElem?_eq_some_iff.mp q
        refine ⟨upd Hb a oo, ⟨fun b o hb => ?_, by simp [R.len], R.nd, fun i es b hi hb hv => ?_, R.ina, fun i x b hi hb => ?_⟩, ⟨sm, ⟨[], by simp, fun _ h => nomatch h⟩, fun _ _ h _ => h, fun b hb hn => ?_, fun _ h => h⟩, (h3.mono sm).rep upd_same⟩
        · by_cases hab : b = a
          · subst hab; rw [upd_same] at hb; cases hb; exact h2
          · rw [upd_ne hab] at hb; exact R.ext b o hb
        · by_cases hij : i = j
          · subst hij
            simp only [List.getElem?_set_self hl] at hi
            cases hi
            cases hv
          · simp only [List.getElem?_set_ne (Ne.symm hij)] at hi
            obtain ⟨k0, ws, k1, k2⟩ := R.own i es b hi hb hv
            have hba : b ≠ a := fun z => hij (ad_inj R.nd hb (z ▸ h1))
            exact ⟨by rw [upd_ne hba]; exact k0, ws, k1, k2.mono sm⟩
        · by_cases hij : i = j
          · subst hij
            simp only [List.getElem?_set_self hl] at hi
            cases hi
            rw [h1] at hb
            cases hb
            exact (h3.mono sm).rep upd_same
          · simp only [List.getElem?_set_ne (Ne.symm hij)] at hi
            exact (R.fz i x b hi hb).mono sm
        · by_cases hab : b = a
          · subst hab; exact .inr (List.mem_of_getElem? h1)
          · rw [upd_ne hab] at hn; exact absurd hb hn
/-- a new object of the base -/
theorem Rel.newF {o : HO} {p : Addr} (R : Rel G Hb H ad L) (hp : H p = none) : Rel G (upd Hb p o) (upd H p o) ad L ∧ Stp Hb H ad (upd Hb p o) (upd H p o) ad := by
  have hbp : Hb p = none := by
    cases q : Hb p with
    | none => rfl
    | some w => rw [R.ext p w q] at hp; cases hp
  have sm : Same Hb (upd Hb p o) := fun b w hb => by rw [upd_ne (ne_of_none hb hbp)]; exact hb
  have hpa : p ∉ ad := fun h => R.ina p h hp
  refine ⟨⟨fun b w hb => ?_, R.len, R.nd, fun i es b hi hb hv => ?_, fun b hb => ?_, fun i x b hi hb => (R.fz i x b hi hb).mono sm⟩, sm, ⟨[], by simp, fun _ h => nomatch h⟩, fun b w hb _ => by rw [upd_ne (ne_of_none hb hp)]; exact hb, fun b hb hn => ?_, fun b hb => ?_⟩
  · by_cases e : b = p
    · subst e; rw [upd_same] at hb ⊢; exact hb
    · rw [upd_ne e] at hb ⊢; exact R.ext b w hb
  · obtain ⟨k0, ws, k1, k2⟩ := R.own i es b hi hb hv
    have e : b ≠ p := fun z => hpa (z ▸ List.mem_of_getElem? hb)
    exact ⟨by rw [upd_ne e]; exact k0, ws, by rw [upd_ne e]; exact k1, k2.mono sm⟩
  · have e : b ≠ p := fun z => hpa (z ▸ hb)
    rw [upd_ne e]; exact R.ina b hb
  · by_cases e : b = p
    · subst e; exact .inl hp
    · rw [upd_ne e] at hn; exact absurd hb hn
  · by_cases e : b = p
    · subst e; exact hp
    · rw [upd_ne e] at hb; exact hb
/-- a new list of the frame's own -/
theorem Rel.newO {p : Addr} {oo : HO} {ct : Ct} (R : Rel G Hb H ad L) (hp : H p = none) (r : OwnR G Hb oo ct) :
    Rel G Hb (upd H p oo) (ad ++ [p]) (L ++ [ct]) ∧ Stp Hb H ad Hb (upd H p oo) (ad ++ [p]) ∧ RepS G Hb (ad ++ [p]) (.ref p) (.c L.length) := by
  have hbp : Hb p = none := by
    cases q : Hb p with
    | none => rfl
    | some w => rw [R.ext p w q] at hp; cases hp
  have hpa : p ∉ ad := fun h => R.ina p h hp
  have nn : ∀ b, b ∈ ad → b ≠ p := fun b hb z => hpa (z ▸ hb)
  have old : ∀ {i : Nat} {b : Addr}, i < L.length → (ad ++ [p])[i]? = some b → ad[i]? = some b := fun {i b} hi h => by
    rw [List.getElem?_append_left (by rw [R.len]; exact hi)] at h; exact h
  refine ⟨⟨fun b w hb => by rw [upd_ne (ne_of_none hb hbp)]; exact R.ext b w hb, by simp [R.len], List.nodup_append.mpr ⟨R.nd, by simp, fun a ha b hb => by simp at hb; subst hb; exact nn a ha⟩, fun i es b hi hb hv => ?_, fun b hb => ?_, fun i x b hi hb => ?_⟩,
    ⟨Same.refl _, ⟨[p], rfl, fun a ha => by simp at ha; subst ha; exact hp⟩, fun b w hb _ => by rw [upd_ne (ne_of_none hb hp)]; exact hb, fun b hb hn => absurd hb hn, fun b hb => ?_⟩, ⟨p, by rw [← R.len]; simp, rfl⟩⟩
  · by_cases hl : i < L.length
    · rw [List.getElem?_append_left hl] at hi
      have hb' := old hl hb
      obtain ⟨k0, ws, k1, k2⟩ := R.own i es b hi hb' hv
      exact ⟨k0, ws, by rw [upd_ne (nn b (List.mem_of_getElem? hb'))]; exact k1, k2⟩
    · have hi' : i = L.length := by
        obtain ⟨h1, _⟩ := List.getElem?_eq_some_iff.mp hi
        simp at h1; omega
      subst hi'
      rw [List.getElem?_append_right (Nat.le_refl _)] at hi
      simp at hi
      rw [← R.len, List.getElem?_append_right (Nat.le_refl _)] at hb
      simp at hb
      subst hi; subst hb
      exact ⟨hbp, oo, upd_same, r⟩
  · rcases List.mem_append.mp hb with hb | hb
    · rw [upd_ne (nn b hb)]; exact R.ina b hb
    · simp at hb; subst hb; rw [upd_same]; simp
  · by_cases hl : i < L.length
    · rw [List.getElem?_append_left hl] at hi
      exact R.fz i x b hi (old hl hb)
    · have hi' : i = L.length := by
        obtain ⟨h1, _⟩ := List.getElem?_eq_some_iff.mp hi
        simp at h1; omega
      subst hi'
      rw [List.getElem?_append_right (Nat.le_refl _)] at hi
      simp at hi
      subst hi
      cases oo <;> exact r.elim
  · by_cases e : b = p
    · subst e; exact hp
    · rw [upd_ne e] at hb; exact hb
/-- an own object is written -/
theorem Rel.setO {j : Nat} {a : Addr} {oo : HO} {ct ct' : Ct} (R : Rel G Hb H ad L) (hL : L[j]? = some ct) (lv : ct.live = true) (ha : ad[j]? = some a) (r : OwnR G Hb oo ct') :
    Rel G Hb (upd H a oo) ad (L.set j ct') ∧ Stp Hb H ad Hb (upd H a oo) ad := by
  obtain ⟨h0, ws, h1, h2⟩ := R.own j ct a hL ha lv
  obtain ⟨hl, _⟩ := List.getElem?_eq_some_iff.mp hL
  refine ⟨⟨fun b w hb => by rw [upd_ne (ne_of_none hb h0)]; exact R.ext b w hb, by simp [R.len], R.nd, fun i fs b hi hb hv => ?_, fun b hb => ?_, fun i x b hi hb => ?_⟩, Same.refl _, ⟨[], by simp, fun _ h => nomatch h⟩, fun b w hb hn => ?_, fun b hb hn => absurd hb hn, fun b hb => ?_⟩
  · by_cases hij : i = j
    · subst hij
      rw [List.getElem?_set_self hl] at hi
      cases hi
      rw [ha] at hb
      cases hb
      exact ⟨h0, oo, upd_same, r⟩
    · rw [List.getElem?_set_ne (Ne.symm hij)] at hi
      obtain ⟨k0, us, k1, k2⟩ := R.own i fs b hi hb hv
      have e : b ≠ a := fun z => hij (ad_inj R.nd hb (z ▸ ha))
      exact ⟨k0, us, by rw [upd_ne e]; exact k1, k2⟩
  · by_cases e : b = a
    · subst e; rw [upd_same]; simp
    · rw [upd_ne e]; exact R.ina b hb
  · by_cases hij : i = j
    · subst hij
      rw [List.getElem?_set_self hl] at hi
      cases hi
      cases oo <;> exact r.elim
    · rw [List.getElem?_set_ne (Ne.symm hij)] at hi
      exact R.fz i x b hi hb
  · have e : b ≠ a := fun z => hn (by rw [z]; exact List.mem_of_getElem? ha)
    rw [upd_ne e]
    exact hb
  · by_cases e : b = a
    · subst e; rw [upd_same] at hb; cases hb
    · rw [upd_ne e] at hb; exact hb
/-- behind a call that leaves all that stood -/
theorem Rel.after (R : Rel G Hb H ad L) (sb : Same Hb Hb1) (sh : Same H H1) (sx : Same Hb1 H1) (bs : ∀ a, Hb a = none → Hb1 a ≠ none → H a = none) : Rel G Hb1 H1 ad L ∧ Stp Hb H ad Hb1 H1 ad := by
  refine ⟨⟨sx, R.len, R.nd, fun i es b hi hb hv => ?_, fun b hb => ?_, fun i x b hi hb => (R.fz i x b hi hb).mono sb⟩, sb, ⟨[], by simp, fun _ h => nomatch h⟩, fun b w hb _ => sh b w hb, fun b hb hn => .inl (bs b hb hn), fun b hb => ?_⟩
  · obtain ⟨k0, ws, k1, k2⟩ := R.own i es b hi hb hv
    refine ⟨?_, ws, sh _ _ k1, k2.mono sb⟩
    cases q : Hb1 b with
    | none => rfl
    | some w =>
      have := bs b k0 (by rw [q]; simp)
      rw [k1] at this; cases this
  · cases q : H b with
    | none => exact absurd q (R.ina b hb)
    | some w => rw [sh b w q]; simp
  · cases q : H b with
    | none => rfl
    | some w => rw [sh b w q] at hb; cases hb
end
end PD

namespace PD
open PySem L2

/-! ## the program, its matcher -/
structure Pr where
  G : Gs
  fn : Nat → Option Fn
  nm : Nat → Str
  ps : Nat → List Str
  gc : Nat → D
  gn : Nat → Str
  gcn : Nat
/-- the names as they stand -/
structure Me where
  N : List Str
  sc : Scope
  fb : Str → Bool
def dbgB (x : Str) : Bool := !(x == ("__debug__" : Str)) && !(x == ("__classdict__" : Str))
def visB (sc : Scope) (x : Str) : Bool := match sc.names.lookup x with
  | some .local => true | some .cell => true | some .free => true | _ => false
def glB (sc : Scope) (x : Str) : Bool := match sc.names.lookup x with
  | some .globalImplicit => true | _ => false
def locB (me : Me) (x : Str) : Bool := match me.sc.names.lookup x with
  | some .local => true | some .cell => me.fb x | _ => false
def noStar : Expr → Bool | .Starred _ _ => false | _ => true
def noSlice : Expr → Bool | .Slice _ _ _ _ => false | _ => true
def noSet : Expr → Bool | .Set _ _ _ => false | _ => true
def noComp : Expr → Bool | .ListComp _ _ _ _ => false | .SetComp _ _ _ _ => false | .DictComp _ _ _ _ _ => false | _ => true
def noCall : Expr → Bool | .Call _ _ _ _ => false | _ => true
def plainT : Expr → Bool | .UnaryOp .Not _ _ => false | .BoolOp _ _ _ => false | .IfExp _ _ _ _ => false | .Compare _ _ _ _ => false | _ => true
def opM : BOp → Operator → Bool
  | .add, .Add => true | .sub, .Sub => true | .mul, .Mult => true | .fdiv, .FloorDiv => true | .mod, .Mod => true | .pow, .Pow => true | _, _ => false
def copM : COp → CmpOp → Bool
  | .lt, .Lt => true | .le, .LtE => true | .gt, .Gt => true | .ge, .GtE => true | .eq, .Eq => true | .ne, .NotEq => true
  | .is, .Is => true | .isnot, .IsNot => true | .isin, .In => true | .notin, .NotIn => true | _, _ => false
def biN : Bi → Str
  | .len => "len" | .abs => "abs" | .min2 => "min" | .max2 => "max" | .min1 => "min" | .max1 => "max" | .sum => "sum" | .all => "all"
  | .int => "int" | .str => "str" | .sorted => "sorted" | .tuple => "tuple" | .divmod => "divmod" | .setlen => "len"
def tyN : Ty → Str
  | .int => "int" | .bool => "bool" | .str => "str" | .list => "list" | .tuple => "tuple" | .dict => "dict" | .own _ => ""
def bmN : Bm → Str
  | .join => "join" | .split => "split" | .index => "index" | .find => "find" | .count => "count" | .startswith => "startswith" | _ => ""
def bmI : Bm → String
  | .join => "str.join" | .split => "str.split" | .index => "str.index" | .find => "str.find" | .count => "str.count" | .startswith => "str.startswith" | _ => ""
def bmB : Bm → Bool
  | .join => true | .split => true | .index => true | .find => true | .count => true | .startswith => true | _ => false
def mTgs (me : Me) : List Nat → List Expr → Bool
  | [], [] => true
  | i :: is, .Name x _ :: es => decide (me.N[i]? = some x) && locB me x && mTgs me is es
  | _, _ => false
def mTg (me : Me) : Tg → Expr → Bool
  | .v i, .Name x _ => decide (me.N[i]? = some x) && locB me x
  | .t is, .Tuple es _ _ => mTgs me is es
  | _, _ => false
/-- a comprehension's own names with their places -/
def ownOf (N : List Str) (is : List Nat) : List (Str × Nat) := is.filterMap fun i => (N[i]?).map fun x => (x, i)
def blkMe (me : Me) (scope : Scope) : Me := ⟨me.N, relS scope me.sc, fun x => scope.names.lookup x == some .cell⟩
def isNo : E → Bool | .non => true | _ => false
section
variable (pr : Pr)
mutual
def mE : E → Me → Expr → Bool
  | .non, _, .Constant .none _ _ => true
  | .bl b, _, .Constant (.bool c) _ _ => b == c
  | .int i, _, .Constant (.int j) _ _ => i == j
  | .str s, _, .Constant (.str t) _ _ => decide (s = t)
  | .var i, me, .Name x _ => decide (me.N[i]? = some x) && visB me.sc x && dbgB x
  | .gc k, me, .Name x _ => decide (k < pr.gcn) && decide (x = pr.gn k) && glB me.sc x && dbgB x
  | .bin op a b, me, .BinOp ea o eb _ => opM op o && mE a me ea && mE b me eb
  | .neg a, me, .UnaryOp .USub ea _ => mE a me ea
  | .cmp op a b, me, .Compare ea [o] [eb] _ => copM op o && mE a me ea && mE b me eb && noSet eb
  | .chain o1 o2 a b c, me, .Compare ea [p1, p2] [eb, ec] _ => copM o1 p1 && copM o2 p2 && mE a me ea && mE b me eb && mE c me ec && noSet ec
  | .and a b, me, .BoolOp .And [ea, eb] _ => mE a me ea && mE b me eb
  | .and a b, me, .BoolOp .And (ea :: eb :: ec :: es) pos => mE a me ea && mE b me (.BoolOp .And (eb :: ec :: es) pos)
  | .or a b, me, .BoolOp .Or [ea, eb] _ => mE a me ea && mE b me eb
  | .or a b, me, .BoolOp .Or (ea :: eb :: ec :: es) pos => mE a me ea && mE b me (.BoolOp .Or (eb :: ec :: es) pos)
  | .not a, me, .UnaryOp .Not ea _ => mE a me ea
  | .ife c a b, me, .IfExp ec ea eb _ => mT c me ec && mE a me ea && mE b me eb
  | .call f as, me, .Call (.Name x _) (e :: es) [] _ => decide (x = pr.nm f) && glB me.sc x && dbgB x && (pr.fn f).isSome && mEs as me (e :: es)
  | .bi f as, me, .Call (.Name x _) (e :: es) [] _ => decide (x = biN f) && glB me.sc x && mEs as me (e :: es)
  | .bm f o (.cons a .nil), me, .Call (.Attribute eo y q) [e] [] q2 => bmB f && (q.endLine == q2.line) && decide (y = bmN f) && noCall eo && noStar e && mE o me eo && mE a me e
  | .isi a t, me, .Call (.Name x _) [ea, .Name y _] [] _ => decide (x = ("isinstance" : Str)) && glB me.sc x && decide (y = tyN t) && glB me.sc y && noStar ea && (tyD .non t).isSome && mE a me ea
  | .idx a i, me, .Subscript ea ei _ => noSlice ei && mE a me ea && mE i me ei
  | .slc a lo hi, me, .Subscript ea (.Slice l h none _) _ => mE a me ea && (match l with | none => isNo lo | some l => !isNo lo && mE lo me l) && (match h with | none => isNo hi | some h => !isNo hi && mE hi me h)
  | .rev a, me, .Subscript ea (.Slice none none (some (.UnaryOp .USub (.Constant (.int i) _ _) _)) _) _ => i == 1 && mE a me ea
  | .edict, _, .Dict [] [] _ => true
  | .tdict a b, me, .Dict [some ek] [ev] _ => mE a me ek && mE b me ev
  | .lst as, me, .List es _ => mEs as me es
  | .tup as, me, .Tuple es _ _ => mEs as me es
  | .mklist a, me, .Call (.Name x _) [e] [] _ => decide (x = ("list" : Str)) && glB me.sc x && noStar e && mE a me e
  | .mkrange a, me, .Call (.Name x _) [.Call (.Name y _) [e] [] _] [] _ => decide (x = ("list" : Str)) && glB me.sc x && decide (y = ("range" : Str)) && glB me.sc y && noStar e && mE a me e
  | .comp tg it elt cs, me, .ListComp ee [⟨et, ei, ifs, asy⟩] scope _ => asy == 0 && blkC me.N me.sc scope (ownOf me.N (tgSlots tg)) && decide ((ownOf me.N (tgSlots tg)).map (·.2) = tgSlots tg) &&
      mTg (blkMe me scope) tg et && mI it me et ei && mE elt (blkMe me scope) ee && mTs cs (blkMe me scope) ifs
  | .fld a f, me, .Attribute ea x _ => decide (x = pr.G.fN f) && noCall ea && mE a me ea
  | _, _, _ => false
def mEs : Es → Me → List Expr → Bool
  | .nil, _, [] => true
  | .cons a as, me, e :: es => noStar e && mE a me e && mEs as me es
  | _, _, _ => false
def mT : T → Me → Expr → Bool
  | .and a b, me, .BoolOp .And [ea, eb] _ => mT a me ea && mT b me eb
  | .and a b, me, .BoolOp .And (ea :: eb :: ec :: es) pos => mT a me ea && mT b me (.BoolOp .And (eb :: ec :: es) pos)
  | .or a b, me, .BoolOp .Or [ea, eb] _ => mT a me ea && mT b me eb
  | .or a b, me, .BoolOp .Or (ea :: eb :: ec :: es) pos => mT a me ea && mT b me (.BoolOp .Or (eb :: ec :: es) pos)
  | .not a, me, .UnaryOp .Not ea _ => mT a me ea
  | .cmp op a b, me, .Compare ea [o] [eb] _ => copM op o && mE a me ea && mE b me eb && noSet eb
  | .chain o1 o2 a b c, me, .Compare ea [p1, p2] [eb, ec] _ => copM o1 p1 && copM o2 p2 && mE a me ea && mE b me eb && mE c me ec && noSet ec
  | .val a, me, e => plainT e && mE a me e
  | _, _, _ => false
def mTs : Ts → Me → List Expr → Bool
  | .nil, _, [] => true
  | .cons a as, me, e :: es => mT a me e && mTs as me es
  | _, _, _ => false
def mI : It → Me → Expr → Expr → Bool
  | .seq a, me, _, e => noSet e && mE a me e
  | .range1 b, me, _, .Call (.Name x _) [e] [] _ => decide (x = ("range" : Str)) && glB me.sc x && noStar e && mE b me e
  | .range2 a b, me, _, .Call (.Name x _) [e, e2] [] _ => decide (x = ("range" : Str)) && glB me.sc x && noStar e && noStar e2 && mE a me e && mE b me e2
  | .enum a, me, .Tuple _ _ _, .Call (.Name x _) [e] [] _ => decide (x = ("enumerate" : Str)) && glB me.sc x && noStar e && mE a me e
  | .zip a b, me, .Tuple _ _ _, .Call (.Name x _) [e, e2] [] _ => decide (x = ("zip" : Str)) && glB me.sc x && noStar e && noStar e2 && mE a me e && mE b me e2
  | .reversed a, me, _, .Call (.Name x _) [e] [] _ => decide (x = ("reversed" : Str)) && glB me.sc x && noStar e && mE a me e
  | _, _, _, _ => false
end
end

def okFold (a b : Expr) : Bool := noStar a && noStar b && !([a, b].all (foldedForSure 8)) && !([a, b].all (constantsAlone 8))
def locl (me : Me) (x : Str) : Bool := match me.sc.names.lookup x with | some .local => true | _ => false
/-- [..] given to a name: on one line, the name a plain local -/
def compA (me : Me) (x : Str) (p : Pos) : Expr → Bool
  | .ListComp _ _ scope pos => locl me x && (p.line == pos.line) && !(scope.names.any fun (n, k) => n == x && (k == .local || k == .cell))
  | e => noComp e
def noTup : Expr → Bool | .Tuple _ _ _ => false | _ => true
section
variable (pr : Pr)
mutual
def mS : S → Me → Stmt → Bool
  | .asg (.v i) e, me, .Assign [.Name x p] ee _ => decide (me.N[i]? = some x) && locB me x && compA me x p ee && mE pr e me ee
  | .own i e, me, .Assign [.Name x p] ee _ => decide (me.N[i]? = some x) && locB me x && compA me x p ee && mE pr e me ee
  | .asg (.t is) e, me, .Assign [.Tuple es _ _] ee _ => mTgs me is es && noComp ee && noTup ee && mE pr e me ee
  | .par i j a b, me, .Assign [.Tuple [.Name x p1, .Name y p2] _ _] (.Tuple [ea, eb] _ _) _ => decide (me.N[i]? = some x) && decide (me.N[j]? = some y) && decide (i ≠ j) && locl me x && locl me y && decide (p1.line = p2.line) && decide (x ≠ y) && okFold ea eb && mE pr a me ea && mE pr b me eb
  | .aug i .add e, me, .AugAssign (.Name x _) .Add ee _ => decide (me.N[i]? = some x) && locB me x && mE pr e me ee
  | .aug i .sub e, me, .AugAssign (.Name x _) .Sub ee _ => decide (me.N[i]? = some x) && locB me x && mE pr e me ee
  | .setix i b e, me, .Assign [.Subscript (.Name x _) eb _] ee _ => decide (me.N[i]? = some x) && visB me.sc x && dbgB x && noSlice eb && noComp ee && mE pr e me ee && mE pr b me eb
  | .setk i b, me, .Assign [.Subscript (.Name x _) eb _] (.Constant (.bool bb) _ _) _ => bb && decide (me.N[i]? = some x) && visB me.sc x && dbgB x && noSlice eb && mE pr b me eb
  | .append i e, me, .Expr (.Call (.Attribute (.Name x _) f q) [ee] [] q2) _ => (q.endLine == q2.line) && decide (me.N[i]? = some x) && visB me.sc x && dbgB x && decide (f = ("append" : Str)) && noStar ee && mE pr e me ee
  | .extend i e, me, .Expr (.Call (.Attribute (.Name x _) f q) [ee] [] q2) _ => (q.endLine == q2.line) && decide (me.N[i]? = some x) && visB me.sc x && dbgB x && decide (f = ("extend" : Str)) && noStar ee && mE pr e me ee
  | .ret e, me, .Return (some ee) _ => mE pr e me ee
  | .retO e, me, .Return (some ee) _ => mE pr e me ee
  | .retN, _, .Return none _ => true
  | .never, _, _ => true
  | .expr e, me, .Expr ee _ => noComp ee && mE pr e me ee
  | .ife c a b, me, .If ec sa sb _ => mT pr c me ec && mSs a me sa && mSs b me sb
  | .for_ tg it _ body, me, .For et ei sb [] _ => mTg me tg et && mI pr it me et ei && mSs body me sb
  | .while_ c _ body, me, .While ec sb [] _ => mT pr c me ec && mSs body me sb
  | .pass, _, .Pass _ => true
  | _, _, _ => false
def mSs : Ss → Me → List Stmt → Bool
  | .nil, _, [] => true
  | .cons (.frz _) ss, me, sts => mSs ss me sts
  | .cons s ss, me, st :: sts => mS s me st && mSs ss me sts
  | _, _, _ => false
end
end
/-! ## the context of a body -/
def bltNames : List Str := ["len", "abs", "min", "max", "sum", "all", "int", "str", "sorted", "tuple", "divmod", "set", "isinstance", "bool", "list", "dict", "range", "enumerate", "zip", "reversed"]
/-- how an exception stands -/
def XRep (G : Gs) (H : Hp) (x : Xn) (cls : Value) (d : Option Addr) : Prop := cls = .ref (G.cA x.1) ∧ match x.2 with
  | none => d = none
  | some u => ∃ dx v f, d = some dx ∧ H dx = some (.xd [(f, v)]) ∧ Rep G H v u
/-- what comes back of a call -/
def Bk (G : Gs) (Hb H Hb' H' : Hp) (v : V) : Rs → Prop
  | .v x => Rep G Hb' v x
  | .new ds => ∃ a vs, v = .ref a ∧ H a = none ∧ Hb' a = none ∧ H' a = some (.lst vs) ∧ RepL G Hb' vs ds
def spF (G : Gs) (Γ : Calls) (f : Nat) : Sp := fun vs H Q E => ∃ (ds : List D) (Hb : Hp) (k : Rs → Prop) (z : Xn → Prop), Γ f ds k z ∧ Same Hb H ∧ RepL G Hb vs ds ∧
  (∀ r v Hb' H', k r → Same Hb Hb' → Same H H' → Same Hb' H' → (∀ a, Hb a = none → Hb' a ≠ none → H a = none) → Bk G Hb H Hb' H' v r → Q v H') ∧
  (∀ x cls d H', z x → Same H H' → XRep G H' x cls d → E cls d H')
structure Ctx (pr : Pr) (n : Nat) (me : Me) (X : Cx) : Prop where
  K : X.K = pr.G.K
  N : X.N = me.N
  sc : X.env.scope = me.sc
  nd : X.N.Nodup
  calm : X.calm = true
  room : Room n X.A
  fb : ∀ x, me.fb x = true → X.fn x = true
  fns : ∀ f F, pr.fn f = some F → ∃ a fd, X.mg (pr.nm f) = some (.ref a) ∧ PySem.W.keepIn X.K (.ref a) = true ∧ Binds X.K fd (pr.ps f) [] ∧
    FnOk X.prog X.w X.K X.mg X.base (L2.CX X.prog X.w) n a fd (pr.ps f) (spF pr.G (wpF pr.fn pr.gc n) f)
  blt : ∀ x ∈ bltNames, X.mg x = none
  gcs : ∀ k, k < pr.gcn → ∃ u v, X.mg (pr.gn k) = some u ∧ RelV v u ∧ ∀ Hb, Rep pr.G Hb v (pr.gc k)

/-! ## weakest readings -/
def wX (X : Cx) (e : Expr) : TE := fun σ H Q => ∀ (pins : List (Addr × Obj)) (s : Shared), Inv X pins σ H s → wpAny (model X.prog X.w) X.A (eval e X.env) (EP X pins σ Q) X.xe s
theorem wX.pe {X : Cx} {e : Expr} : PE X e (wX X e) := ⟨fun pins s σ H Q I h => h pins s I⟩
theorem wX.by {X : Cx} {e : Expr} {t : TE} {σ : St} {H : Hp} {Q : VK} (p : PE X e t) (h : t σ H Q) : wX X e σ H Q := fun pins s I => p.run pins s σ H Q I h
def wT (X : Cx) (e : Expr) : TT := fun σ H Q => ∀ (pins : List (Addr × Obj)) (s : Shared), Inv X pins σ H s → wpAny (model X.prog X.w) X.A (isTrue e X.env (eval e X.env)) (TP X pins σ Q) X.xe s
theorem wT.pt {X : Cx} {e : Expr} : PT X e (wT X e) := ⟨fun pins s σ H Q I h => h pins s I⟩
theorem wT.by {X : Cx} {e : Expr} {t : TT} {σ : St} {H : Hp} {Q : Bool → Hp → Prop} (p : PT X e t) (h : t σ H Q) : wT X e σ H Q := fun pins s I => p.run pins s σ H Q I h
def wA (X : Cx) (es : List Expr) : TA := fun σ H Q => ∀ (pos : Pos) (pins : List (Addr × Obj)) (s : Shared), Inv X pins σ H s → wpAny (model X.prog X.w) X.A (spliced (backTo pos (starEach es X.env))) (AP X pins σ Q) X.xe s
theorem wA.pa {X : Cx} {es : List Expr} : PA X es (wA X es) := ⟨fun pos pins s σ H Q I h => h pos pins s I⟩
theorem wA.by {X : Cx} {es : List Expr} {t : TA} {σ : St} {H : Hp} {Q : List V → Hp → Prop} (p : PA X es t) (h : t σ H Q) : wA X es σ H Q := fun pos pins s I => p.run pos pins s σ H Q I h
def rW (X : Cx) (f : Value → Value → Sem Value) : R2 := fun x y H Q => ∀ (pins : List (Addr × Obj)) (s : Shared) (σ : St) (v u : Value), Inv X pins σ H s → RelV x v → RelV y u → wpAny (model X.prog X.w) X.A (f v u) (EP X pins σ Q) X.xe s
theorem rW.op {X : Cx} {f : Value → Value → Sem Value} : OpR X f (rW X f) := fun pins s σ H x y v u Q I rx ry h => h pins s σ v u I rx ry
theorem rW.by {X : Cx} {f : Value → Value → Sem Value} {r : R2} {x y : V} {H : Hp} {Q : VK} (p : OpR X f r) (h : r x y H Q) : rW X f x y H Q := fun pins s σ v u I rx ry => p pins s σ H x y v u Q I rx ry h
end PD

namespace PD
open PySem L2

def ZOk (G : Gs) (z : Xn → Tab → Prop) (W : WX) (σ : St) (Hb H : Hp) (ad : List Addr) : Prop := ∀ x cls d L' Hb' H' ad', z x L' → Rel G Hb' H' ad' L' → Stp Hb H ad Hb' H' ad' → XRep G H' x cls d → W cls d σ H'
def KOk (G : Gs) (k : KV) (Q : VK) (Hb H : Hp) (ad : List Addr) : Prop := ∀ v sv L' Hb' H' ad', k sv L' → Rel G Hb' H' ad' L' → Stp Hb H ad Hb' H' ad' → RepS G Hb' ad' v sv → Q v H'
def RepSs (G : Gs) (Hb : Hp) (ad : List Addr) : List V → List SV → Prop := Paired (RepS G Hb ad)
def KOks (G : Gs) (k : List SV → Tab → Prop) (Q : List V → Hp → Prop) (Hb H : Hp) (ad : List Addr) : Prop := ∀ vs svs L' Hb' H' ad', k svs L' → Rel G Hb' H' ad' L' → Stp Hb H ad Hb' H' ad' → RepSs G Hb' ad' vs svs → Q vs H'
def KOt (G : Gs) (k : Bool → Tab → Prop) (Q : Bool → Hp → Prop) (Hb H : Hp) (ad : List Addr) : Prop := ∀ b L' Hb' H' ad', k b L' → Rel G Hb' H' ad' L' → Stp Hb H ad Hb' H' ad' → Q b H'
/-- an iterator that yields these items while the base stands -/
structure ItOk (G : Gs) (J : L2.It) (items : List D) (Hb1 : Hp) : Prop where
  go : ∀ i H, Same Hb1 H → i < items.length → J.go i H
  stop : ∀ i H, Same Hb1 H → items.length ≤ i → J.stop i H
  yld : ∀ i H Hb ad L x H', Same Hb1 Hb → Rel G Hb H ad L → J.yld i H x H' → i < items.length → ∃ d Hb', items[i]? = some d ∧ Rel G Hb' H' ad L ∧ Stp Hb H ad Hb' H' ad ∧ Rep G Hb' x d
section
variable {G : Gs} {Hb Hb1 H H1 : Hp} {ad ad1 : List Addr} {L : Tab} {W : WX} {σ : St} {z : Xn → Tab → Prop}
theorem ZOk.step (a : Stp Hb H ad Hb1 H1 ad1) (h : ZOk G z W σ Hb H ad) : ZOk G z W σ Hb1 H1 ad1 := fun x cls d L' Hb' H' ad' hz R s r => h x cls d L' Hb' H' ad' hz R (a.trans s) r
theorem KOk.step {k : KV} {Q : VK} (a : Stp Hb H ad Hb1 H1 ad1) (h : KOk G k Q Hb H ad) : KOk G k Q Hb1 H1 ad1 := fun v sv L' Hb' H' ad' hk R s r => h v sv L' Hb' H' ad' hk R (a.trans s) r
theorem KOt.step {k : Bool → Tab → Prop} {Q : Bool → Hp → Prop} (a : Stp Hb H ad Hb1 H1 ad1) (h : KOt G k Q Hb H ad) : KOt G k Q Hb1 H1 ad1 := fun b L' Hb' H' ad' hk R s => h b L' Hb' H' ad' hk R (a.trans s)
theorem RepSs.step {vs : List V} {svs : List SV} (a : Stp Hb H ad Hb1 H1 ad1) : RepSs G Hb ad vs svs → RepSs G Hb1 ad1 vs svs := fun h => L2.Paired.mapP h fun _ _ r => RepS.step a r
theorem Stp.trunc (a : Stp Hb H ad Hb1 H1 ad1) : Stp Hb H ad Hb1 H1 ad := ⟨a.base, ⟨[], by simp, fun _ h => nomatch h⟩, a.keep, a.bas, a.there⟩
theorem Rel.trunc {ns : List Addr} {ex : Tab} (R : Rel G Hb H (ad ++ ns) (L ++ ex)) (hl : ad.length = L.length) : Rel G Hb H ad L := by
  have g1 : ∀ {j : Nat} {c : Ct}, L[j]? = some c → (L ++ ex)[j]? = some c := fun {j c} h => by
    obtain ⟨hj, _⟩ := List.getElem?_eq_some_iff.mp h
    rw [List.getElem?_append_left hj]; exact h
  have g2 : ∀ {j : Nat} {a : Addr}, ad[j]? = some a → (ad ++ ns)[j]? = some a := fun {j c} h => by
    obtain ⟨hj, _⟩ := List.getElem?_eq_some_iff.mp h
    rw [List.getElem?_append_left hj]; exact h
  exact ⟨R.ext, hl, (List.nodup_append.mp R.nd).1, fun j ds a h h' hv => R.own j ds a (g1 h) (g2 h') hv, fun a h => R.ina a (List.mem_append_left _ h), fun j x a h h' => R.fz j x a (g1 h) (g2 h')⟩
theorem RepSs.dens {vs : List V} (R : Rel G Hb H ad L) : ∀ {vs : List V} {svs : List SV} {ds : List D}, RepSs G Hb ad vs svs → PD.dens L svs = some ds → Paired (Pk G Hb H) vs ds
  | _, _, ds, .nil, e => by cases e; exact .nil
  | _, sv :: svs, ds, .cons r t, e => by
    unfold PD.dens at e
    cases q : den L sv with
    | none => simp only [q] at e; cases e
    | some x =>
      cases q2 : PD.dens L svs with
      | none => simp only [q, q2] at e; cases e
      | some xs =>
        simp only [q, q2] at e
        cases e
        exact .cons (R.read r q) (RepSs.dens (vs := []) R t q2)
theorem dens_frzT (L : Tab) (a : SV) : ∀ svs, dens (frzT L a) svs = dens L svs
  | [] => rfl
  | v :: vs => by unfold dens; rw [den_frzT, dens_frzT L a vs]
/-- all are frozen -/
theorem RepSs.freeze : ∀ {vs : List V} {svs : List SV} {ds : List D} {Hb : Hp} {L : Tab}, Rel G Hb H ad L → RepSs G Hb ad vs svs → PD.dens L svs = some ds →
    ∃ Hb', Rel G Hb' H ad (frzL L svs) ∧ Stp Hb H ad Hb' H ad ∧ RepL G Hb' vs ds
  | _, _, ds, Hb, L, R, .nil, e => by cases e; exact ⟨Hb, R, Stp.refl, .nil⟩
  | _, sv :: svs, ds, Hb, L, R, .cons r t, e => by
    unfold PD.dens at e
    cases q : den L sv with
    | none => simp only [q] at e; cases e
    | some x =>
      cases q2 : PD.dens L svs with
      | none => simp only [q, q2] at e; cases e
      | some xs =>
        simp only [q, q2] at e
        cases e
        obtain ⟨Hb1, R1, s1, r1⟩ := R.freeze r q
        obtain ⟨Hb2, R2, s2, r2⟩ := RepSs.freeze R1 (L2.Paired.mapP t fun _ _ r => RepS.step s1 r) (by rw [dens_frzT]; exact q2)
        exact ⟨Hb2, R2, s1.trans s2, .cons (r1.mono s2.base) r2⟩
/-- a new list, own or frozen -/
theorem mkL_ok {m : Bool} {ds : List D} {k : KV} {Q : VK} {vs : List V} (h : mkL m ds L k) (R : Rel G Hb H ad L) (hk : KOk G k Q Hb H ad) (r : RepL G Hb vs ds) {p : Addr} (hp : H p = none) : Q (.ref p) (upd H p (.lst vs)) := by
  cases m with
  | true =>
    obtain ⟨R1, s1, r1⟩ := R.newO (oo := .lst vs) (ct := .lst ds) hp r
    exact hk _ _ _ _ _ _ h R1 s1 r1
  | false =>
    obtain ⟨R1, s1⟩ := R.newF (o := .lst vs) hp
    exact hk _ (.d (.lst ds)) _ _ _ _ h R1 s1 (.lst upd_same (r.mono s1.base))
end
section
variable {pr : Pr} {n : Nat} {me : Me} {X : Cx} {W : WX}
variable {e ea eb : Expr} {env : Env} {L : Tab} {Hb H : Hp} {ad : List Addr} {σ : St} {Q : VK} {z : Xn → Tab → Prop}
abbrev Gam (pr : Pr) (n : Nat) : Calls := wpF pr.fn pr.gc n
def SE (pr : Pr) (n : Nat) (a : E) : Prop := ∀ {me : Me} {X : Cx} {W : WX} {e : Expr} {m : Bool} {env : Env} {L : Tab} {k : KV} {z : Xn → Tab → Prop} {Hb H : Hp} {ad : List Addr} {σ : St} {Q : VK}, Ctx pr n me X → Takes X W →
  mE pr a me e = true → wpE (Gam pr n) pr.gc a m env L k z → Rel pr.G Hb H ad L → EnvR pr.G Hb ad env σ → ZOk pr.G z W σ Hb H ad → KOk pr.G k Q Hb H ad → wX X e σ H Q
def SEs (pr : Pr) (n : Nat) (a : Es) : Prop := ∀ {me : Me} {X : Cx} {W : WX} {es : List Expr} {env : Env} {L : Tab} {k : List SV → Tab → Prop} {z : Xn → Tab → Prop} {Hb H : Hp} {ad : List Addr} {σ : St} {Q : List V → Hp → Prop}, Ctx pr n me X → Takes X W →
  mEs pr a me es = true → wpEs (Gam pr n) pr.gc a env L k z → Rel pr.G Hb H ad L → EnvR pr.G Hb ad env σ → ZOk pr.G z W σ Hb H ad → KOks pr.G k Q Hb H ad → wA X es σ H Q
def ST (pr : Pr) (n : Nat) (a : T) : Prop := ∀ {me : Me} {X : Cx} {W : WX} {e : Expr} {env : Env} {L : Tab} {k : Bool → Tab → Prop} {z : Xn → Tab → Prop} {Hb H : Hp} {ad : List Addr} {σ : St} {Q : Bool → Hp → Prop}, Ctx pr n me X → Takes X W →
  mT pr a me e = true → wpT (Gam pr n) pr.gc a env L k z → Rel pr.G Hb H ad L → EnvR pr.G Hb ad env σ → ZOk pr.G z W σ Hb H ad → KOt pr.G k Q Hb H ad → wT X e σ H Q
/-- two in a row -/
theorem two {a b : E} (ha : SE pr n a) (hb : SE pr n b) {R : V → V → Hp → Prop} {k2 : SV → SV → Tab → Prop} (C : Ctx pr n me X) (tk : Takes X W) (ma : mE pr a me ea = true) (mb : mE pr b me eb = true)
    (h : wpE (Gam pr n) pr.gc a false env L (fun x L1 => wpE (Gam pr n) pr.gc b false env L1 (fun y L2 => k2 x y L2) z) z) (Rl : Rel pr.G Hb H ad L) (E : EnvR pr.G Hb ad env σ) (Z : ZOk pr.G z W σ Hb H ad)
    (fin : ∀ v w x y L2 Hb2 H2 ad2, k2 x y L2 → Rel pr.G Hb2 H2 ad2 L2 → Stp Hb H ad Hb2 H2 ad2 → RepS pr.G Hb2 ad2 v x → RepS pr.G Hb2 ad2 w y → R v w H2) :
    wX X ea σ H fun v H1 => wX X eb σ H1 fun w H2 => R v w H2 :=
  ha C tk ma h Rl E Z fun v x L1 Hb1 H1 ad1 h1 R1 s1 r1 =>
    hb C tk mb h1 R1 (E.step s1) (Z.step s1) fun w y L2 Hb2 H2 ad2 h2 R2 s2 r2 => fin v w x y L2 Hb2 H2 ad2 h2 R2 (s1.trans s2) (r1.step s2) r2
/-! ### the operators, on what is read -/
variable {k : KV}
theorem opB_ok {op : BOp} {o : Operator} {m : Bool} {u v : D} {x y : V} (mo : opM op o = true) (h : opB op u v (resK m L k)) (R : Rel pr.G Hb H ad L) (hk : KOk pr.G k Q Hb H ad)
    (px : Pk pr.G Hb H x u) (py : Pk pr.G Hb H y v) : rW X (binaryOp o) x y H Q := by
  have fin : ∀ {w : V} {r : D}, Rep pr.G Hb w r → k (.d r) L → Q w H := fun {w r} q h => hk w (.d r) L Hb H ad h R Stp.refl q
  cases op <;> cases o <;> first | (exact Bool.noConfusion mo) | skip
  -- add
  · cases u with
    | int i =>
      cases v with
      | int j => rw [px.int, py.int]; exact rW.by op_add ⟨i, j, rfl, rfl, fin (.int _) h⟩
      | _ => exact h.elim
    | str i =>
      cases v with
      | str j => rw [px.str, py.str]; exact rW.by op_add_str ⟨i, j, rfl, rfl, h.1, fin (.str _) h.2⟩
      | _ => exact h.elim
    | lst ds =>
      cases v with
      | lst es =>
        obtain ⟨a, vs, rfl, h1, r1⟩ := px.lst R.ext
        obtain ⟨b, ws, rfl, h2, r2⟩ := py.lst R.ext
        exact rW.by op_cat ⟨a, b, vs, ws, rfl, rfl, h1, h2, by rw [r1.length, r2.length]; exact h.1, fun p hp => mkL_ok h.2 R hk (r1.append r2) hp⟩
      | _ => exact h.elim
    | tup ds =>
      cases v with
      | tup es =>
        obtain ⟨a, vs, rfl, h1, r1⟩ := px.tup R.ext
        obtain ⟨b, ws, rfl, h2, r2⟩ := py.tup R.ext
        have pa : Rep pr.G Hb (.ref a) (.tup ds) := px.base rfl
        have pb : Rep pr.G Hb (.ref b) (.tup es) := py.base rfl
        refine rW.by op_catA ⟨a, b, vs, ws, rfl, rfl, SqT.of h1, SqT.of h2, by rw [r1.length, r2.length]; exact h.1, fun e => ?_, fun _ e => ?_, fun _ _ p hp => ?_⟩
        · have e2 : ds = [] := List.eq_nil_of_length_eq_zero (by rw [← r1.length, e]; rfl)
          subst e2
          exact fin pb h.2
        · have e2 : es = [] := List.eq_nil_of_length_eq_zero (by rw [← r2.length, e]; rfl)
          subst e2
          have h3 : k (.d (.tup (ds ++ []))) L := h.2
          rw [List.append_nil] at h3
          exact fin pa h3
        · obtain ⟨R1, s1⟩ := R.newF (o := .tup (vs ++ ws)) hp
          exact hk _ (.d (.tup (ds ++ es))) _ _ _ _ h.2 R1 s1 (.tup upd_same ((r1.append r2).mono s1.base))
      | _ => exact h.elim
    | _ => exact h.elim
  -- sub
  · cases u with
    | int i =>
      cases v with
      | int j => rw [px.int, py.int]; exact rW.by op_sub ⟨i, j, rfl, rfl, fin (.int _) h⟩
      | _ => exact h.elim
    | _ => exact h.elim
  -- mul
  · cases u with
    | int i =>
      cases v with
      | int j =>
        rw [px.int, py.int]
        rcases h.1 with c | c
        · exact rW.by op_mul ⟨i, j, rfl, rfl, c, fin (.int _) h.2⟩
        · exact rW.by op_mulW ⟨i, j, rfl, rfl, c, fin (.int _) h.2⟩
      | _ => exact h.elim
    | lst ds =>
      cases v with
      | int j =>
        obtain ⟨a, vs, rfl, h1, r1⟩ := px.lst R.ext
        rw [py.int]
        have q1 := h.1
        have q2 := h.2.1
        exact rW.by op_rep ⟨a, j, vs, rfl, rfl, h1, by omega, by omega, by rw [r1.length]; exact h.2.2.1, fun p hp => mkL_ok h.2.2.2 R hk (r1.rep _) hp⟩
      | _ => exact h.elim
    | _ => exact h.elim
  -- fdiv
  · cases u with
    | int i =>
      cases v with
      | int j => rw [px.int, py.int]; exact rW.by op_fdivW ⟨i, j, rfl, rfl, h.1, fin (.int _) h.2⟩
      | _ => exact h.elim
    | _ => exact h.elim
  -- mod
  · cases u with
    | int i =>
      cases v with
      | int j => rw [px.int, py.int]; exact rW.by op_mod ⟨i, j, rfl, rfl, h.1, fin (.int _) h.2⟩
      | _ => exact h.elim
    | _ => exact h.elim
  -- pow
  · cases u with
    | int i =>
      cases v with
      | int j => rw [px.int, py.int]; exact rW.by op_pow ⟨i, j, rfl, rfl, h.1, fin (.int _) h.2⟩
      | _ => exact h.elim
    | _ => exact h.elim
end
end PD

namespace PD
open PySem L2
theorem dpInts {K : PySem.W.Frag} {H : Hp} : ∀ ns : List Int, DpAll K H (ns.map V.int) (ns.map PyData.int)
  | [] => .nil
  | n :: ns => .cons (.int n) (dpInts ns)
mutual
theorem Rep.dp {G : Gs} {H : Hp} : ∀ {v : V} {d : D}, d.pure = true → Rep G H v d → Dp G.K H v (toPy d)
  | _, _, _, .non => by unfold toPy; exact .non
  | _, _, _, .bl b => by unfold toPy; exact .bl b
  | _, _, _, .int i => by unfold toPy; exact .int i
  | _, _, _, .str s => by unfold toPy; exact .str s
  | _, _, h, .lst e r => by
    unfold toPy
    exact .lst (SqL.of e) (RepL.dp (by unfold D.pure at h; exact h) r)
  | _, _, h, .tup e r => by
    unfold toPy
    exact .tup (SqT.of e) (RepL.dp (by unfold D.pure at h; exact h) r)
  | _, _, _, .scr (ns := ns) e => by
    unfold toPy
    exact .lst e (dpInts ns)
  | _, _, h, .kst e => by unfold D.pure at h; exact Bool.noConfusion h
  | _, _, h, .dct e => by unfold D.pure at h; exact Bool.noConfusion h
  | _, _, h, .dctT e => by unfold D.pure at h; exact Bool.noConfusion h
  | _, _, h, .obj e r => by unfold D.pure at h; exact Bool.noConfusion h
theorem RepL.dp {G : Gs} {H : Hp} : ∀ {vs : List V} {ds : List D}, pures ds = true → RepL G H vs ds → DpAll G.K H vs (toPys ds)
  | _, _, _, .nil => by unfold toPys; exact .nil
  | _, _, h, .cons r t => by
    unfold toPys
    unfold pures at h
    rw [Bool.and_eq_true] at h
    exact .cons (Rep.dp h.1 r) (RepL.dp h.2 t)
end
section
variable {G : Gs} {Hb H : Hp} {v w : V} {d e : D}
theorem flatV_of (h : d.flat = true) (r : Rep G H v d) : flatV v = true := by
  cases r with
  | non => rfl
  | bl b => rfl
  | int b => rfl
  | str b => rfl
  | lst _ _ => cases h
  | tup _ _ => cases h
  | scr _ => cases h
  | kst _ => cases h
  | dct _ => cases h
  | dctT _ => cases h
  | obj _ _ => cases h
theorem eqV_of (h : d.flat = true) (h' : e.flat = true) (r : Rep G H v d) (r' : Rep G H w e) : eqV v w = D.eqF d e := by
  cases r with
  | lst _ _ => cases h
  | tup _ _ => cases h
  | scr _ => cases h
  | kst _ => cases h
  | dct _ => cases h
  | dctT _ => cases h
  | obj _ _ => cases h
  | _ =>
    cases r' with
    | lst _ _ => cases h'
    | tup _ _ => cases h'
    | scr _ => cases h'
    | kst _ => cases h'
    | dct _ => cases h'
    | dctT _ => cases h'
    | obj _ _ => cases h'
    | _ => rfl
theorem flatAll : ∀ {vs : List V} {ds : List D}, ds.all D.flat = true → RepL G H vs ds → vs.all flatV = true
  | _, _, _, .nil => rfl
  | _, _, h, .cons r t => by
    rw [List.all_cons, Bool.and_eq_true] at h
    rw [List.all_cons, flatV_of h.1 r, flatAll h.2 t]
    rfl
theorem inV_of (h : d.flat = true) (r : Rep G H v d) : ∀ {vs : List V} {ds : List D}, ds.all D.flat = true → RepL G H vs ds → inV v vs = D.inL d ds
  | _, _, _, .nil => rfl
  | x :: xs, y :: ys, h', .cons r' t => by
    rw [List.all_cons, Bool.and_eq_true] at h'
    have ih := inV_of h r h'.2 t
    unfold inV D.inL at ih ⊢
    rw [List.any_cons, List.any_cons, eqV_of h'.1 h r' r, ih]
theorem isNon_of (r : Rep G H v d) : decide (v = .non) = d.isNon := by
  cases r <;> simp [D.isNon]
end
section
variable {pr : Pr} {n : Nat} {me : Me} {X : Cx} {W : WX}
variable {e ea eb : Expr} {env : Env} {L : Tab} {Hb H : Hp} {ad : List Addr} {σ : St} {Q : VK} {z : Xn → Tab → Prop} {k : KV}
theorem eqD_ok (C : Ctx pr n me X) {kb : Bool → Prop} {u v : D} {x y : V} (h : eqD u v kb) (R : Rel pr.G Hb H ad L) (fin : ∀ b, kb b → Q (.bl b) H)
    (px : Pk pr.G Hb H x u) (py : Pk pr.G Hb H y v) : rW X (compareOp .Eq) x y H Q := by
  have gen : (u.pure = true ∧ v.pure = true ∧ SeqAt.shaped (toPy u) = true ∧ SeqAt.shaped (toPy v) = true ∧ kb (PyData.eqv (toPy u) (toPy v))) → rW X (compareOp .Eq) x y H Q := fun ⟨p1, p2, s1, s2, q⟩ =>
    rW.by (op_eqD C.room.units) ⟨toPy u, toPy v, by rw [C.K]; exact (px.toH R.ext).dp p1, by rw [C.K]; exact (py.toH R.ext).dp p2, s1, s2, fin _ q⟩
  cases u with
  | int i =>
    cases v with
    | int j => rw [px.int, py.int]; exact rW.by op_eq ⟨rfl, by rw [dec_int]; exact fin _ h⟩
    | str j => rw [px.int, py.str]; exact rW.by op_eq ⟨rfl, fin _ h⟩
    | _ => exact gen h
  | bl i =>
    cases v with
    | bl j => rw [px.bl, py.bl]; exact rW.by op_eq ⟨rfl, by rw [dec_bl]; exact fin _ h⟩
    | str j => rw [px.bl, py.str]; exact rW.by op_eq ⟨rfl, fin _ h⟩
    | _ => exact gen h
  | str i =>
    cases v with
    | int j => rw [px.str, py.int]; exact rW.by op_eq ⟨rfl, fin _ h⟩
    | str j => rw [px.str, py.str]; exact rW.by op_eq ⟨rfl, by rw [dec_str]; exact fin _ h⟩
    | bl j => rw [px.str, py.bl]; exact rW.by op_eq ⟨rfl, fin _ h⟩
    | _ => exact gen h
  | non =>
    cases v with
    | non => rw [px.non, py.non]; exact rW.by op_eq ⟨rfl, fin _ h⟩
    | _ => exact gen h
  | _ => cases v <;> exact gen h
theorem neD_ok (C : Ctx pr n me X) {kb : Bool → Prop} {u v : D} {x y : V} (h : eqD u v fun b => kb (!b)) (R : Rel pr.G Hb H ad L) (fin : ∀ b, kb b → Q (.bl b) H)
    (px : Pk pr.G Hb H x u) (py : Pk pr.G Hb H y v) : rW X (compareOp .NotEq) x y H Q := by
  have gen : (u.pure = true ∧ v.pure = true ∧ SeqAt.shaped (toPy u) = true ∧ SeqAt.shaped (toPy v) = true ∧ kb (!PyData.eqv (toPy u) (toPy v))) → rW X (compareOp .NotEq) x y H Q := fun ⟨p1, p2, s1, s2, q⟩ =>
    rW.by (op_neD C.room.units) ⟨toPy u, toPy v, by rw [C.K]; exact (px.toH R.ext).dp p1, by rw [C.K]; exact (py.toH R.ext).dp p2, s1, s2, fin _ q⟩
  cases u with
  | int i =>
    cases v with
    | int j => rw [px.int, py.int]; exact rW.by op_ne ⟨rfl, by rw [dec_int]; exact fin _ h⟩
    | str j => rw [px.int, py.str]; exact rW.by op_ne ⟨rfl, fin _ h⟩
    | _ => exact gen h
  | bl i =>
    cases v with
    | bl j => rw [px.bl, py.bl]; exact rW.by op_ne ⟨rfl, by rw [dec_bl]; exact fin _ h⟩
    | str j => rw [px.bl, py.str]; exact rW.by op_ne ⟨rfl, fin _ h⟩
    | _ => exact gen h
  | str i =>
    cases v with
    | int j => rw [px.str, py.int]; exact rW.by op_ne ⟨rfl, fin _ h⟩
    | str j => rw [px.str, py.str]; exact rW.by op_ne ⟨rfl, by rw [dec_str]; exact fin _ h⟩
    | bl j => rw [px.str, py.bl]; exact rW.by op_ne ⟨rfl, fin _ h⟩
    | _ => exact gen h
  | non =>
    cases v with
    | non => rw [px.non, py.non]; exact rW.by op_ne ⟨rfl, fin _ h⟩
    | _ => exact gen h
  | _ => cases v <;> exact gen h
theorem isD_ok {kb : Bool → Prop} {u v : D} {x y : V} (neg : Bool) (h : isD u v fun b => kb (if neg then !b else b)) (R : Rel pr.G Hb H ad L) (fin : ∀ b, kb b → Q (.bl b) H)
    (px : Pk pr.G Hb H x u) (py : Pk pr.G Hb H y v) : rW X (compareOp (if neg then .IsNot else .Is)) x y H Q := by
  have pn : v = .non → kb (if neg then !u.isNon else u.isNon) → rW X (compareOp (if neg then .IsNot else .Is)) x y H Q := fun e h => by
    subst e
    rw [py.non]
    have e := isNon_of (px.toH R.ext)
    cases neg with
    | true => exact rW.by op_notN ⟨rfl, by rw [e]; exact fin _ h⟩
    | false => exact rW.by op_isN ⟨rfl, by rw [e]; exact fin _ h⟩
  cases u with
  | bl i =>
    cases v with
    | non => exact pn rfl h
    | bl j =>
      rw [px.bl, py.bl]
      have e : decide (i = j) = (i == j) := by cases i <;> cases j <;> rfl
      cases neg with
      | true => exact rW.by op_notBl ⟨i, j, rfl, rfl, by rw [e]; exact fin _ h⟩
      | false => exact rW.by op_isBl ⟨i, j, rfl, rfl, by rw [e]; exact fin _ h⟩
    | _ => exact h.elim
  | _ =>
    cases v with
    | non => exact pn rfl h
    | _ => exact h.elim
theorem inD_ok (C : Ctx pr n me X) {kb : Bool → Prop} {u v : D} {x y : V} (neg : Bool) (h : inD u v fun b => kb (if neg then !b else b)) (R : Rel pr.G Hb H ad L) (fin : ∀ b, kb b → Q (.bl b) H)
    (px : Pk pr.G Hb H x u) (py : Pk pr.G Hb H y v) : rW X (compareOp (if neg then .NotIn else .In)) x y H Q := by
  have seq : ∀ {a : Addr} {vs : List V} {ds : List D}, y = .ref a → (SqL X.K H a vs ∨ SqT X.K H a vs) → RepL pr.G H vs ds → u.flat = true → ds.all D.flat = true → kb (if neg then !D.inL u ds else D.inL u ds) →
      rW X (compareOp (if neg then .NotIn else .In)) x y H Q := fun {a vs ds} e hs r f1 f2 q => by
    have rx := px.toH R.ext
    have e2 := inV_of f1 rx f2 r
    subst e
    cases neg with
    | true => exact rW.by op_notIn_seq ⟨a, vs, rfl, hs, flatV_of f1 rx, flatAll f2 r, by rw [e2]; exact fin _ q⟩
    | false => exact rW.by op_in_seq ⟨a, vs, rfl, hs, flatV_of f1 rx, flatAll f2 r, by rw [e2]; exact fin _ q⟩
  have lst : ∀ {ds : List D}, v = .lst ds → u.flat = true ∧ ds.all D.flat = true ∧ kb (if neg then !D.inL u ds else D.inL u ds) → rW X (compareOp (if neg then .NotIn else .In)) x y H Q := fun {ds} e q => by
    subst e
    obtain ⟨a, vs, e, h1, r1⟩ := py.lst R.ext
    exact seq e (.inl (SqL.of h1)) (r1.mono R.ext) q.1 q.2.1 q.2.2
  have tup : ∀ {ds : List D}, v = .tup ds → u.flat = true ∧ ds.all D.flat = true ∧ kb (if neg then !D.inL u ds else D.inL u ds) → rW X (compareOp (if neg then .NotIn else .In)) x y H Q := fun {ds} e q => by
    subst e
    obtain ⟨a, vs, e, h1, r1⟩ := py.tup R.ext
    exact seq e (.inr (SqT.of h1)) (r1.mono R.ext) q.1 q.2.1 q.2.2
  cases v with
  | lst ds => exact lst rfl (by cases u <;> exact h)
  | tup ds => exact tup rfl (by cases u <;> exact h)
  | str b =>
    cases u with
    | str a =>
      obtain ⟨c, rfl, q⟩ := h
      rw [px.str, py.str]
      cases neg with
      | true => exact rW.by op_notIn_sign ⟨c, b, rfl, rfl, fin _ q⟩
      | false => exact rW.by op_in_sign ⟨c, b, rfl, rfl, fin _ q⟩
    | _ => exact h.elim
  | _ => cases u <;> exact h.elim
theorem cmpD_ok (C : Ctx pr n me X) {op : COp} {o : CmpOp} {kb : Bool → Prop} {u v : D} {x y : V} (mo : copM op o = true) (h : cmpD op u v kb) (R : Rel pr.G Hb H ad L) (fin : ∀ b, kb b → Q (.bl b) H)
    (px : Pk pr.G Hb H x u) (py : Pk pr.G Hb H y v) : rW X (compareOp o) x y H Q := by
  cases op with
  | eq => cases o <;> first | exact Bool.noConfusion mo | skip
          exact eqD_ok C (by cases u <;> cases v <;> exact h) R fin px py
  | ne => cases o <;> first | exact Bool.noConfusion mo | skip
          exact neD_ok C (by cases u <;> cases v <;> exact h) R fin px py
  | is => cases o <;> first | exact Bool.noConfusion mo | skip
          exact isD_ok false (by cases u <;> cases v <;> exact h) R fin px py
  | isnot => cases o <;> first | exact Bool.noConfusion mo | skip
             exact isD_ok true (by cases u <;> cases v <;> exact h) R fin px py
  | isin => cases o <;> first | exact Bool.noConfusion mo | skip
            exact inD_ok C false (by cases u <;> cases v <;> exact h) R fin px py
  | notin => cases o <;> first | exact Bool.noConfusion mo | skip
             exact inD_ok C true (by cases u <;> cases v <;> exact h) R fin px py
  | lt =>
    cases o <;> first | exact Bool.noConfusion mo | skip
    cases u with
    | int i =>
      cases v with
      | int j => rw [px.int, py.int]; exact rW.by op_lt ⟨i, j, rfl, rfl, fin _ h⟩
      | _ => exact h.elim
    | str i =>
      cases v with
      | str j => rw [px.str, py.str]; exact rW.by op_lt_str ⟨i, j, rfl, rfl, fin _ h⟩
      | _ => exact h.elim
    | _ => cases v <;> exact h.elim
  | le =>
    cases o <;> first | exact Bool.noConfusion mo | skip
    cases u with
    | int i =>
      cases v with
      | int j => rw [px.int, py.int]; exact rW.by op_le ⟨i, j, rfl, rfl, fin _ h⟩
      | _ => exact h.elim
    | _ => cases v <;> exact h.elim
  | gt =>
    cases o <;> first | exact Bool.noConfusion mo | skip
    cases u with
    | int i =>
      cases v with
      | int j => rw [px.int, py.int]; exact rW.by op_gt ⟨i, j, rfl, rfl, fin _ h⟩
      | _ => exact h.elim
    | _ => cases v <;> exact h.elim
  | ge =>
    cases o <;> first | exact Bool.noConfusion mo | skip
    cases u with
    | int i =>
      cases v with
      | int j => rw [px.int, py.int]; exact rW.by op_ge ⟨i, j, rfl, rfl, fin _ h⟩
      | _ => exact h.elim
    | _ => cases v <;> exact h.elim
/-! ### truth -/
theorem truD_ok (C : Ctx pr n me X) {kb : Bool → Prop} {u : D} {x : V} (h : truD u kb) (R : Rel pr.G Hb H ad L) (px : Pk pr.G Hb H x u) : ∃ b, TruV X.K x H b ∧ kb b := by
  have em : ∀ {vs : List V} {ds : List D}, RepL pr.G Hb vs ds → vs.isEmpty = ds.isEmpty := fun r => by cases r <;> rfl
  cases u with
  | bl b => rw [px.bl]; exact ⟨b, rfl, h⟩
  | non => rw [px.non]; exact ⟨false, rfl, h⟩
  | int i => rw [px.int]; exact ⟨_, rfl, h⟩
  | lst ds =>
    obtain ⟨a, vs, rfl, h1, r1⟩ := px.lst R.ext
    exact ⟨_, .inl ⟨vs, SqL.of h1, rfl⟩, by rw [em r1]; exact h⟩
  | tup ds =>
    obtain ⟨a, vs, rfl, h1, r1⟩ := px.tup R.ext
    exact ⟨_, .inr (.inl ⟨vs, SqT.of h1, rfl⟩), by rw [em r1]; exact h⟩
  | _ => exact h.elim
/-! ### items, parts -/
theorem atI_map {α β : Type} (f : α → β) {xs : List α} {i : Int} {v : α} (h : atI xs i = some v) : atI (xs.map f) i = some (f v) := by
  unfold atI at h ⊢
  rw [List.length_map]
  cases q : ixN xs.length i with
  | none => rw [q] at h; cases h
  | some j =>
    rw [q] at h
    show (xs.map f)[j]? = some (f v)
    rw [List.getElem?_map, show xs[j]? = some v from h]
    rfl
theorem atI_rep {vs : List V} {ds : List D} {i : Int} {d : D} (r : RepL pr.G Hb vs ds) (h : atI ds i = some d) : ∃ v, atI vs i = some v ∧ Rep pr.G Hb v d := by
  unfold atI at h ⊢
  rw [r.length]
  cases q : ixN ds.length i with
  | none => rw [q] at h; cases h
  | some j =>
    rw [q] at h
    exact r.get (i := j) h
end
end PD

namespace PD
open PySem L2
/-! ## weakest readings of items, slices, calls by values -/
def rI (X : Cx) : R2 := fun x y H Q => ∀ (value slice : Expr) (pins : List (Addr × Obj)) (s : Shared) (σ : St) (v u : Value), Inv X pins σ H s → RelV x v → RelV y u →
    subscripted slice false v u = operate [v, u] (getItem v u) → wpAny (model X.prog X.w) X.A (PyProof.Rows.subscriptTail value slice v u) (EP X pins σ Q) X.xe s
theorem rI.ix {X : Cx} : IxR X (rI X) := fun value slice pins s σ H x y v u Q I rx ry h hs => h value slice pins s σ v u I rx ry hs
theorem rI.by {X : Cx} {r : R2} {x y : V} {H : Hp} {Q : VK} (p : IxR X r) (h : r x y H Q) : rI X x y H Q := fun value slice pins s σ v u I rx ry hs => p value slice pins s σ H x y v u Q I rx ry h hs
def rS (X : Cx) : V → Option Int → Option Int → Hp → VK → Prop := fun x lo hi H Q => ∀ (pins : List (Addr × Obj)) (s : Shared) (σ : St) (v vl vu : Value) (sl : Addr), Inv X pins σ H s → RelV x v → s.heap.IsSliceOf sl vl vu .none → IsPart vl lo → IsPart vu hi →
    ∃ T id, typeLookup (.type T) "__getitem__" = pure (some (.builtin id)) ∧ s.TypeIs v T ∧ wpAny (model X.prog X.w) X.A (getItem v (.ref sl)) (EP X pins σ Q) X.xe s
theorem rS.sl {X : Cx} : SlR X (rS X) := fun pins s σ H x v vl vu lo hi sl Q I rx hs pl pu h => h pins s σ v vl vu sl I rx hs pl pu
theorem rS.by {X : Cx} {r : V → Option Int → Option Int → Hp → VK → Prop} {x : V} {lo hi : Option Int} {H : Hp} {Q : VK} (p : SlR X r) (h : r x lo hi H Q) : rS X x lo hi H Q := fun pins s σ v vl vu sl I rx hs pl pu => p pins s σ H x v vl vu lo hi sl Q I rx hs pl pu h
def rC (X : Cx) (f : Value) : List V → Hp → VK → Prop := fun xs H Q => ∀ (pins : List (Addr × Obj)) (s : Shared) (σ : St) (us : List Value), Inv X pins σ H s → Vals xs us → wpAny (model X.prog X.w) X.A (call f us) (EP X pins σ Q) X.xe s
theorem rC.c {X : Cx} {f : Value} : CallR X f (rC X f) := fun pins s σ H xs us Q I r h => h pins s σ us I r
theorem rC.by {X : Cx} {f : Value} {r : List V → Hp → VK → Prop} {xs : List V} {H : Hp} {Q : VK} (p : CallR X f r) (h : r xs H Q) : rC X f xs H Q := fun pins s σ us I r' => p pins s σ H xs us Q I r' h
def wI (X : Cx) (tg e : Expr) : TI := fun σ H R => ∀ (pins : List (Addr × Obj)) (s : Shared), Inv X pins σ H s → wpAny (model X.prog X.w) X.A (eval e X.env) (fun v s1 => wpAny (model X.prog X.w) X.A (pyIter v) (PIE X pins σ tg R) X.xe s1) X.xe s
theorem wI.pi {X : Cx} {tg e : Expr} : PI X tg e (wI X tg e) := ⟨fun pins s σ H R I h => h pins s I⟩
theorem wI.by {X : Cx} {tg e : Expr} {wi : TI} {σ : St} {H : Hp} {R : L2.It → Hp → Prop} (p : PI X tg e wi) (h : wi σ H R) : wI X tg e σ H R := fun pins s I => p.run pins s σ H R I h
def biV : Bi → Value
  | .len => .builtin "len" | .abs => .builtin "abs" | .min2 => .builtin "min" | .max2 => .builtin "max" | .min1 => .builtin "min" | .max1 => .builtin "max"
  | .sum => .builtin "sum" | .all => .builtin "all" | .int => .type "int" | .str => .type "str" | .sorted => .builtin "sorted" | .tuple => .type "tuple" | .divmod => .builtin "divmod" | .setlen => .builtin "len"
section
variable {pr : Pr} {n : Nat} {me : Me} {X : Cx} {W : WX}
variable {env : Env} {L : Tab} {Hb H : Hp} {ad : List Addr} {σ : St} {Q : VK} {z : Xn → Tab → Prop} {k : KV}
theorem idxD_ok {u v : D} {x y : V} (h : idxD u v fun r => k (.d r) L) (R : Rel pr.G Hb H ad L) (hk : KOk pr.G k Q Hb H ad) (K : X.K = pr.G.K)
    (px : Pk pr.G Hb H x u) (py : Pk pr.G Hb H y v) : rI X x y H Q := by
  have fin : ∀ {w : V} {r : D}, Rep pr.G Hb w r → k (.d r) L → Q w H := fun {w r} q h => hk w (.d r) L Hb H ad h R Stp.refl q
  cases v with
  | int i =>
    rw [py.int]
    cases u with
    | lst ds =>
      obtain ⟨d, h1, h2⟩ := h
      obtain ⟨a, vs, rfl, h3, r1⟩ := px.lst R.ext
      obtain ⟨w, h4, r2⟩ := atI_rep r1 h1
      exact rI.by ix_list ⟨a, vs, i, w, rfl, rfl, SqL.of h3, h4, fin r2 h2⟩
    | tup ds =>
      obtain ⟨d, h1, h2⟩ := h
      obtain ⟨a, vs, rfl, h3, r1⟩ := px.tup R.ext
      obtain ⟨w, h4, r2⟩ := atI_rep r1 h1
      exact rI.by ix_tup ⟨a, vs, i, w, rfl, rfl, SqT.of h3, h4, fin r2 h2⟩
    | scr ns =>
      obtain ⟨d, h1, h2⟩ := h
      obtain ⟨a, rfl, h3⟩ := px.scr R.ext
      exact rI.by ix_list ⟨a, _, i, _, rfl, rfl, by rw [K]; exact h3, atI_map V.int h1, fin (.int _) h2⟩
    | str s =>
      obtain ⟨c, h0, h1, h2⟩ := h
      rw [px.str]
      exact rI.by ix_str ⟨s, i, c, rfl, rfl, h0, h1, fin (.str _) h2⟩
    | _ => exact h.elim
  | _ => cases u <;> exact h.elim
theorem cutL_map {α β : Type} (f : α → β) (xs : List α) (lo hi : Option Int) : (cutL xs lo hi).map f = cutL (xs.map f) lo hi := by
  unfold cutL
  rw [List.length_map, List.map_take, List.map_drop]
theorem cutL_V (xs : List V) (lo hi : Option Int) : cutV xs lo hi = cutL xs lo hi := rfl
theorem RepL.cut {vs : List V} {ds : List D} (r : RepL pr.G Hb vs ds) (lo hi : Option Int) : RepL pr.G Hb (cutV vs lo hi) (cutL ds lo hi) := by
  unfold cutV cutL
  rw [r.length]
  exact (r.drop _).take _
theorem cutD_ok {m : Bool} {u : D} {lo hi : Option Int} {x : V} (h : cutD u lo hi (resK m L k)) (R : Rel pr.G Hb H ad L) (hk : KOk pr.G k Q Hb H ad) (K : X.K = pr.G.K)
    (px : Pk pr.G Hb H x u) : rS X x lo hi H Q := by
  cases u with
  | lst ds =>
    obtain ⟨a, vs, rfl, h3, r1⟩ := px.lst R.ext
    exact rS.by sl_list ⟨a, vs, rfl, SqL.of h3, fun p hp => mkL_ok h R hk (r1.cut lo hi) hp⟩
  | scr ns =>
    obtain ⟨a, rfl, h3⟩ := px.scr R.ext
    refine rS.by sl_list ⟨a, _, rfl, by rw [K]; exact h3, fun p hp => mkL_ok h R hk ?_ hp⟩
    rw [cutL_V, ← cutL_map]
    exact RepL.ints _
  | str s =>
    rw [px.str]
    exact rS.by sl_str ⟨s, rfl, h.1, hk _ (.d (.str _)) _ _ _ _ h.2 R Stp.refl (.str _)⟩
  | _ => exact h.elim
theorem biD_ok (C : Ctx pr n me X) {m : Bool} {f : Bi} {ds : List D} {vs : List V} (h : biD f ds (resK m L k)) (R : Rel pr.G Hb H ad L) (hk : KOk pr.G k Q Hb H ad)
    (ps : Paired (Pk pr.G Hb H) vs ds) : rC X (biV f) vs H Q := by
  have fin : ∀ {w : V} {r : D}, Rep pr.G Hb w r → k (.d r) L → Q w H := fun {w r} q h => hk w (.d r) L Hb H ad h R Stp.refl q
  cases ps with
  | nil => cases f <;> exact h.elim
  | @cons x u xs us px pt =>
    cases pt with
    | @cons y v ys vs py pt =>
      cases pt with
      | cons _ _ => cases f <;> cases u <;> cases v <;> exact h.elim
      | nil =>
        cases f <;> first | exact h.elim | skip
        case min2 =>
          cases u <;> first | exact h.elim | skip
          cases v <;> first | exact h.elim | skip
          rw [px.int, py.int]
          exact rC.by (call_min2 C.calm) ⟨_, _, rfl, fin (.int _) h⟩
        case max2 =>
          cases u <;> first | exact h.elim | skip
          cases v <;> first | exact h.elim | skip
          rw [px.int, py.int]
          exact rC.by (call_max2 C.calm) ⟨_, _, rfl, fin (.int _) h⟩
        all_goals (cases u <;> first | exact h.elim | (cases v <;> exact h.elim))
    | nil =>
      cases f <;> first | exact h.elim | skip
      case len =>
        cases u with
        | lst ds =>
          obtain ⟨a, vs, rfl, h3, r1⟩ := px.lst R.ext
          exact rC.by call_len_seq ⟨a, vs, rfl, .inl (SqL.of h3), by rw [r1.length]; exact fin (.int _) h⟩
        | tup ds =>
          obtain ⟨a, vs, rfl, h3, r1⟩ := px.tup R.ext
          exact rC.by call_len_seq ⟨a, vs, rfl, .inr (SqT.of h3), by rw [r1.length]; exact fin (.int _) h⟩
        | scr ns =>
          obtain ⟨a, rfl, h3⟩ := px.scr R.ext
          exact rC.by call_len_seq ⟨a, _, rfl, .inl (by rw [C.K]; exact h3), by rw [List.length_map]; exact fin (.int _) h⟩
        | str s =>
          rw [px.str]
          exact rC.by call_len_str ⟨s, rfl, h.1, fin (.int _) h.2⟩
        | _ => exact h.elim
      case abs =>
        cases u <;> first | exact h.elim | skip
        rw [px.int]
        exact rC.by call_abs ⟨_, rfl, fin (.int _) h⟩
      case sum =>
        cases u <;> first | exact h.elim | skip
        obtain ⟨ns, rfl, q⟩ := h
        obtain ⟨a, vs, rfl, h3, r1⟩ := px.lst R.ext
        rw [r1.ofInts] at h3
        exact rC.by (cr_sum C.calm) ⟨a, ns, rfl, SqL.of h3, fin (.int _) q⟩
      case all =>
        cases u <;> first | exact h.elim | skip
        obtain ⟨bs, rfl, q⟩ := h
        obtain ⟨a, vs, rfl, h3, r1⟩ := px.lst R.ext
        rw [r1.ofBls] at h3
        exact rC.by (cr_all C.calm) ⟨a, bs, rfl, SqL.of h3, fin (.bl _) q⟩
      case max1 =>
        cases u <;> first | exact h.elim | skip
        obtain ⟨ns, rfl, q0, q⟩ := h
        obtain ⟨a, vs, rfl, h3, r1⟩ := px.lst R.ext
        rw [r1.ofInts] at h3
        exact rC.by (cr_max C.calm) ⟨a, ns, rfl, SqL.of h3, q0, fun m h1 h2 => fin (.int _) (q m h1 h2)⟩
      case min1 =>
        cases u <;> first | exact h.elim | skip
        obtain ⟨ns, rfl, q0, q⟩ := h
        obtain ⟨a, vs, rfl, h3, r1⟩ := px.lst R.ext
        rw [r1.ofInts] at h3
        exact rC.by (cr_min C.calm) ⟨a, ns, rfl, SqL.of h3, q0, fun m h1 h2 => fin (.int _) (q m h1 h2)⟩
      case sorted =>
        cases u <;> first | exact h.elim | skip
        case lst us =>
          obtain ⟨ns, rfl, q0, q⟩ := h
          obtain ⟨a, vs, rfl, h3, r1⟩ := px.lst R.ext
          rw [r1.ofInts] at h3
          exact rC.by cr_sorted ⟨a, ns, rfl, SqL.of h3, q0, fun ns' p h1 h2 hp => mkL_ok (q ns' h1 h2) R hk (RepL.ints _) hp⟩
        case kst ks =>
          obtain ⟨q0, q⟩ := h
          obtain ⟨a, rfl, h3⟩ := px.kst R.ext
          exact rC.by (call_sortedDI C.calm) ⟨a, _, ks, rfl, Rd.of h3, by rw [List.map_map]; rfl, q0, fun ys p h1 h2 hp => mkL_ok (q ys h1 h2) R hk (RepL.ints _) hp⟩
      case tuple =>
        cases u <;> first | exact h.elim | skip
        obtain ⟨a, vs, rfl, h3, r1⟩ := px.lst R.ext
        refine rC.by call_tuple_of ⟨a, vs, rfl, .inl ⟨SqL.of h3, fun l hl => ?_⟩⟩
        obtain ⟨R1, s1⟩ := R.newF (o := .tup vs) hl
        exact hk _ (.d (.tup _)) _ _ _ _ h R1 s1 (.tup upd_same (r1.mono s1.base))
      case int =>
        cases u with
        | int i => rw [px.int]; exact rC.by call_int1 (.inl ⟨_, rfl, fin (.int _) h⟩)
        | bl i => rw [px.bl]; exact rC.by call_int1 (.inr ⟨_, rfl, fin (.int _) h⟩)
        | _ => exact h.elim
      all_goals (cases u <;> exact h.elim)
/-! ### isinstance -/
def tyS : Ty → String | .int => "int" | .bool => "bool" | .str => "str" | .list => "list" | .tuple => "tuple" | .dict => "dict" | .own _ => ""
theorem tyD_ok {u : D} {t : Ty} {b : Bool} {x : V} (h : tyD u t = some b) (R : Rel pr.G Hb H ad L) (K : X.K = pr.G.K) (px : Pk pr.G Hb H x u) (q : Q (.bl b) H) :
    rC X (.builtin "isinstance") [x, .ty (tyS t)] H Q := by
  have fin : ∀ {a b' : String} {r : Bool}, TyX X.K H x (.type a) → PySem.W.kitOne X.K (.type a) (.type b') = some r → Q (.bl r) H → rC X (.builtin "isinstance") [x, .ty b'] H Q := fun {a b' r} ty e q =>
    rC.by call_isi ⟨x, .ty b', _, _, r, rfl, .ty b', ty, e, q⟩
  have sq : ∀ {a : Addr} {vs : List V}, SqL X.K H a vs → TyX X.K H (.ref a) (.type "list") := fun {a vs} h => by
    rcases h with (h | ⟨o, h⟩) | ⟨o, its, n, hk, hc, _⟩
    · exact .base (.lst h)
    · exact .base (.frz h)
    · exact .kList hk hc
  cases u with
  | non =>
    rw [px.non] at fin ⊢
    cases t <;> first | (cases h; done) | skip
    all_goals (cases h; exact fin (.base .non) (kit_ty (by decide +kernel)) q)
  | bl i =>
    rw [px.bl] at fin ⊢
    cases t <;> first | (cases h; done) | skip
    all_goals (cases h; exact fin (.base (.bl _)) (kit_ty (by decide +kernel)) q)
  | int i =>
    rw [px.int] at fin ⊢
    cases t <;> first | (cases h; done) | skip
    all_goals (cases h; exact fin (.base (.int _)) (kit_ty (by decide +kernel)) q)
  | str i =>
    rw [px.str] at fin ⊢
    cases t <;> first | (cases h; done) | skip
    all_goals (cases h; exact fin (.base (.str _)) (kit_ty (by decide +kernel)) q)
  | lst ds =>
    obtain ⟨a, vs, rfl, h3, r1⟩ := px.lst R.ext
    cases t <;> first | (cases h; done) | skip
    all_goals (cases h; exact fin (.base (.lst h3)) (kit_ty (by decide +kernel)) q)
  | tup ds =>
    obtain ⟨a, vs, rfl, h3, r1⟩ := px.tup R.ext
    cases t <;> first | (cases h; done) | skip
    all_goals (cases h; exact fin (.base (.tup h3)) (kit_ty (by decide +kernel)) q)
  | scr ds =>
    obtain ⟨a, rfl, h3⟩ := px.scr R.ext
    rw [← K] at h3
    cases t <;> first | (cases h; done) | skip
    all_goals (cases h; exact fin (sq h3) (kit_ty (by decide +kernel)) q)
  | dct kvs =>
    have hd : ∃ a, x = .ref a ∧ (H a = some (.dK []) ∨ ∃ kvs, H a = some (.dT kvs)) := by
      cases px.base rfl with
      | dct e => exact ⟨_, rfl, .inl (R.ext _ _ e)⟩
      | dctT e => exact ⟨_, rfl, .inr ⟨_, R.ext _ _ e⟩⟩
    obtain ⟨a, rfl, h3⟩ := hd
    have ty : TyX X.K H (.ref a) (.type "dict") := by
      rcases h3 with h3 | ⟨kvs, h3⟩
      · exact .base (.dK h3)
      · exact .base (.dT h3)
    cases t <;> first | (cases h; done) | skip
    all_goals (cases h; exact fin ty (kit_ty (by decide +kernel)) q)
  | _ => cases t <;> cases h
end
end PD

namespace PD
open PySem L2
/-! ## iterators -/
section
variable {G : Gs} {Hb1 : Hp}
theorem itOk_list {K : PySem.W.Frag} {a : Addr} {vs : List V} {ds : List D} (h : Hb1 a = some (.lst vs)) (r : RepL G Hb1 vs ds) : ItOk G (Itl K a) ds Hb1 where
  go := fun i H s hi => ⟨vs, vs[i]'(by rw [r.length]; exact hi), SqL.of (s _ _ h), by simp [r.length, hi]⟩
  stop := fun i H s hi => ⟨vs, SqL.of (s _ _ h), by rw [r.length]; exact hi⟩
  yld := fun i H Hb ad L x H' s R y hi => by
    obtain ⟨rfl, y⟩ := y
    have e := y vs (SqL.of (R.ext _ _ (s _ _ h)))
    obtain ⟨d, h1, h2⟩ := r.getV e
    exact ⟨d, Hb, h1, R, Stp.refl, h2.mono s⟩
theorem itOk_tup {K : PySem.W.Frag} {a : Addr} {vs : List V} {ds : List D} (h : Hb1 a = some (.tup vs)) (r : RepL G Hb1 vs ds) : ItOk G (Itt K a) ds Hb1 where
  go := fun i H s hi => ⟨vs, vs[i]'(by rw [r.length]; exact hi), SqT.of (s _ _ h), by simp [r.length, hi]⟩
  stop := fun i H s hi => ⟨vs, SqT.of (s _ _ h), by rw [r.length]; exact hi⟩
  yld := fun i H Hb ad L x H' s R y hi => by
    obtain ⟨rfl, y⟩ := y
    have e := y vs (SqT.of (R.ext _ _ (s _ _ h)))
    obtain ⟨d, h1, h2⟩ := r.getV e
    exact ⟨d, Hb, h1, R, Stp.refl, h2.mono s⟩
theorem itOk_scr {K : PySem.W.Frag} {a : Addr} {ns : List Int} (h : SqL K Hb1 a (ns.map V.int)) : ItOk G (Itl K a) (ns.map D.int) Hb1 where
  go := fun i H s hi => ⟨ns.map V.int, .int (ns[i]'(by simpa using hi)), Same.seq s h, by
    have : i < ns.length := by simpa using hi
    simp [this]⟩
  stop := fun i H s hi => ⟨ns.map V.int, Same.seq s h, by simpa using hi⟩
  yld := fun i H Hb ad L x H' s R y hi => by
    obtain ⟨rfl, y⟩ := y
    have e := y _ (Same.seq R.ext (Same.seq s h))
    rw [List.getElem?_map] at e
    cases q : ns[i]? with
    | none => rw [q] at e; cases e
    | some m =>
      rw [q] at e
      cases e
      exact ⟨.int m, Hb, by rw [List.getElem?_map, q]; rfl, R, Stp.refl, .int m⟩
theorem itOk_range {lo : Int} {m : Nat} : ItOk G (Itr lo m) ((List.range m).map fun i => D.int (lo + ((i : Nat) : Int))) Hb1 where
  go := fun i H s hi => by simpa [Itr] using hi
  stop := fun i H s hi => by simpa [Itr] using hi
  yld := fun i H Hb ad L x H' s R y hi => by
    obtain ⟨rfl, rfl⟩ := y
    have hi : i < m := by simpa using hi
    exact ⟨.int (lo + i), Hb, by simp [hi], R, Stp.refl, .int _⟩
theorem itOk_str {s : Str} : ItOk G (Its s) (s.cps.toList.map fun c => D.str ⟨#[c]⟩) Hb1 where
  go := fun i H _ hi => by simpa [Its] using hi
  stop := fun i H _ hi => by simpa [Its] using hi
  yld := fun i H Hb ad L x H' _ R y hi => by
    obtain ⟨rfl, c, hc, rfl⟩ := y
    exact ⟨.str ⟨#[c]⟩, Hb, by simp [List.getElem?_map, hc], R, Stp.refl, .str _⟩
theorem itOk_enum {K : PySem.W.Frag} {a : Addr} {vs : List V} {ds : List D} (h : Hb1 a = some (.lst vs)) (r : RepL G Hb1 vs ds) : ItOk G (Ite K a) (ds.zipIdx.map fun p => D.tup [.int ((p.2 : Nat) : Int), p.1]) Hb1 where
  go := fun i H s hi => by
    have hi : i < ds.length := by simpa using hi
    exact ⟨vs, vs[i]'(by rw [r.length]; exact hi), SqL.of (s _ _ h), by simp [r.length, hi]⟩
  stop := fun i H s hi => ⟨vs, SqL.of (s _ _ h), by rw [r.length]; simpa using hi⟩
  yld := fun i H Hb ad L x H' s R y hi => by
    obtain ⟨T, v, rfl, hT, rfl, y⟩ := y
    have e := y vs (SqL.of (R.ext _ _ (s _ _ h)))
    obtain ⟨d, h1, h2⟩ := r.getV e
    obtain ⟨R2, s2⟩ := R.newF (o := .tup [.int (i : Nat), v]) hT
    exact ⟨.tup [.int ((i : Nat) : Int), d], _, by simp [List.getElem?_map, List.getElem?_zipIdx, h1], R2, s2, .tup upd_same (.cons (.int _) (.cons ((h2.mono s).mono s2.base) .nil))⟩
theorem itOk_zip {K : PySem.W.Frag} {a b : Addr} {vs ws : List V} {ds es : List D} (h : Hb1 a = some (.lst vs)) (h' : Hb1 b = some (.lst ws)) (r : RepL G Hb1 vs ds) (r' : RepL G Hb1 ws es) :
    ItOk G (Itz K a b) ((ds.zip es).map fun p => D.tup [p.1, p.2]) Hb1 where
  go := fun i H s hi => by
    have hi : i < ds.length ∧ i < es.length := by
      have q := hi
      simp only [List.length_map, List.length_zip] at q
      omega
    exact ⟨vs, ws, vs[i]'(by rw [r.length]; exact hi.1), ws[i]'(by rw [r'.length]; exact hi.2), SqL.of (s _ _ h), SqL.of (s _ _ h'), by simp [r.length, hi.1], by simp [r'.length, hi.2]⟩
  stop := fun i H s hi => ⟨vs, ws, SqL.of (s _ _ h), SqL.of (s _ _ h'), by
    have q := hi
    simp only [List.length_map, List.length_zip] at q
    rw [r.length, r'.length]
    omega⟩
  yld := fun i H Hb ad L x H' s R y hi => by
    obtain ⟨T, v, w, rfl, hT, rfl, y, y'⟩ := y
    obtain ⟨d, h1, h2⟩ := r.getV (y vs (SqL.of (R.ext _ _ (s _ _ h))))
    obtain ⟨d', h1', h2'⟩ := r'.getV (y' ws (SqL.of (R.ext _ _ (s _ _ h'))))
    obtain ⟨R2, s2⟩ := R.newF (o := .tup [v, w]) hT
    exact ⟨.tup [d, d'], _, by simp [List.getElem?_map, List.getElem?_zip_eq_some, h1, h1'], R2, s2, .tup upd_same (.cons ((h2.mono s).mono s2.base) (.cons ((h2'.mono s).mono s2.base) .nil))⟩
theorem itOk_rev {K : PySem.W.Frag} {a : Addr} {vs : List V} {ds : List D} (h : Hb1 a = some (.lst vs)) (r : RepL G Hb1 vs ds) : ItOk G (Itv K a vs.length) ds.reverse Hb1 where
  go := fun i H s hi => by
    have hi : i < vs.length := by rw [r.length]; simpa using hi
    exact ⟨hi, vs, vs[vs.length - 1 - i]'(by omega), SqL.of (s _ _ h), by
      have : vs.length - 1 - i < vs.length := by omega
      simp [this]⟩
  stop := fun i H s hi => by
    show vs.length ≤ i
    rw [r.length]; simpa using hi
  yld := fun i H Hb ad L x H' s R y hi => by
    obtain ⟨rfl, y⟩ := y
    have hi : i < ds.length := by simpa using hi
    have e := y vs (SqL.of (R.ext _ _ (s _ _ h)))
    obtain ⟨d, h1, h2⟩ := r.getV e
    exact ⟨d, Hb, by rw [List.getElem?_reverse hi, ← r.length]; exact h1, R, Stp.refl, h2.mono s⟩
end
/-! ## targets -/
theorem wipe_len (σ : St) : ∀ is : List Nat, (L2.wipe σ is).length = σ.length := L2.wipe_length σ
theorem wipe_get (σ : St) : ∀ (is : List Nat) (j : Nat), (L2.wipe σ is)[j]? = if j ∈ is then (if j < σ.length then some none else none) else σ[j]?
  | [], j => by simp [L2.wipe]
  | i :: is, j => by
    unfold L2.wipe
    by_cases e : i = j
    · subst e
      by_cases hl : i < σ.length
      · rw [List.getElem?_set_self (by rw [wipe_len]; exact hl)]; simp [hl]
      · rw [List.getElem?_eq_none (by simp [wipe_len]; omega)]; simp [hl]
    · rw [List.getElem?_set_ne e, wipe_get σ is j]
      simp [List.mem_cons, Ne.symm e]
theorem wipe_eq {σ σ' : St} {is : List Nat} (hl : σ'.length = σ.length) (h : ∀ j, j ∉ is → σ'[j]? = σ[j]?) : L2.wipe σ' is = L2.wipe σ is := by
  apply List.ext_getElem?
  intro j
  rw [wipe_get, wipe_get, hl]
  by_cases hj : j ∈ is
  · simp [hj]
  · simp [hj, h j hj]
theorem loc_of {me : Me} {X : Cx} {x : Str} (sc : X.env.scope = me.sc) (fb : ∀ x, me.fb x = true → X.fn x = true) (h2 : locB me x = true) : L2.Loc X.env.scope x ∧ (X.fn x = true ∨ X.env.scope.names.lookup x = some .local) := by
  unfold locB at h2
  unfold L2.Loc
  rw [sc]
  cases q : me.sc.names.lookup x with
  | none => rw [q] at h2; cases h2
  | some kk => rw [q] at h2; cases kk <;> first | (cases h2; done) | exact ⟨.inl rfl, .inr rfl⟩ | exact ⟨.inr rfl, .inl (fb x h2)⟩
theorem tgs_ok {pr : Pr} {n : Nat} {me : Me} {X : Cx} (N : X.N = me.N) (nd : X.N.Nodup) (sc : X.env.scope = me.sc) (fb : ∀ x, me.fb x = true → X.fn x = true) : ∀ (is : List Nat) (es : List Expr), mTgs me is es = true →
    ∃ t, PGs X es t ∧ is.length = es.length ∧ (assignEach es X.env).length = es.length ∧ (assignEach es X.env).findIdx? (·.1) = none ∧ ∀ (ds : List D) (vs : List V) (G : Gs) (Hb : Hp) (ad : List Addr) (env : Env) (σ : St) (H : Hp) (Q : St → Hp → Prop), is.length = ds.length → RepL G Hb vs ds → EnvR G Hb ad env σ →
      (∀ σ', EnvR G Hb ad (setAll env is ds) σ' → σ'.length = σ.length → (∀ j, j ∉ is → σ'[j]? = σ[j]?) → Q σ' H) → t vs σ H Q := by
  intro is
  induction is with
  | nil =>
    intro es h
    cases es with
    | cons e es => exact Bool.noConfusion h
    | nil =>
      refine ⟨gNil, pgs_nil, rfl, rfl, rfl, fun ds vs G Hb ad env σ H Q hl r E q => ?_⟩
      cases ds with
      | cons _ _ => simp at hl
      | nil => cases r; exact ⟨rfl, q σ E rfl fun _ _ => rfl⟩
  | cons i is ih =>
    intro es h
    cases es with
    | nil => exact Bool.noConfusion h
    | cons e es =>
      cases e <;> first | exact Bool.noConfusion h | skip
      rename_i x pos
      have h' : (decide (me.N[i]? = some x) && locB me x && mTgs me is es) = true := h
      simp only [Bool.and_eq_true, decide_eq_true_eq] at h'
      obtain ⟨⟨h1, h2⟩, h3⟩ := h'
      obtain ⟨t, p, l1, l2, l3, w⟩ := ih es h3
      obtain ⟨hx, hf⟩ := loc_of sc fb h2
      refine ⟨gCons (gName i) t, pgs_cons (pg_name nd (by rw [N]; exact h1) hx hf) p rfl, by simp [l1], by show ((assignEach es X.env).length + 1 = es.length + 1); rw [l2], ?_, fun ds vs G Hb ad env σ H Q hl r E q => ?_⟩
      · show List.findIdx? (·.1) ((false, assign (.Name x pos) X.env) :: assignEach es X.env) = none
        rw [List.findIdx?_cons]
        simp [l3]
      cases ds with
      | nil => simp at hl
      | cons d ds =>
        cases r with
        | cons r rs =>
          refine ⟨_, _, rfl, ?_⟩
          exact w ds _ G Hb ad (setS env i (.d d)) _ H Q (by simpa using hl) rs (E.set (sv := .d d) i r) fun σ' E' l4 we => q σ' E' (by rw [l4]; simp) fun j hj => by
            rw [we j (fun z => hj (List.mem_cons_of_mem _ z)), List.getElem?_set_ne (fun z => hj (by simp [z]))]
/-- a target, at data -/
theorem tg_ok {pr : Pr} {n : Nat} {me : Me} {X : Cx} (N : X.N = me.N) (nd : X.N.Nodup) (sc : X.env.scope = me.sc) (fb : ∀ x, me.fb x = true → X.fn x = true) (hc : X.calm = true) {tg : Tg} {e : Expr} (h : mTg me tg e = true) :
    ∃ t, PG X e t ∧ ∀ (d : D) (v : V) (G : Gs) (Hb : Hp) (ad : List Addr) (env : Env) (σ : St) (H : Hp) (k : Env → Prop) (Q : St → Hp → Prop), tgD tg d env k → Same Hb H → Rep G Hb v d → EnvR G Hb ad env σ →
      (∀ env' σ', k env' → EnvR G Hb ad env' σ' → σ'.length = σ.length → (∀ j, j ∉ tgSlots tg → σ'[j]? = σ[j]?) → Q σ' H) → t v σ H Q := by
  cases tg with
  | v i =>
    cases e <;> first | exact Bool.noConfusion h | skip
    rename_i x pos
    have h' : (decide (me.N[i]? = some x) && locB me x) = true := h
    simp only [Bool.and_eq_true, decide_eq_true_eq] at h'
    obtain ⟨h1, h2⟩ := h'
    obtain ⟨hx, hf⟩ := loc_of sc fb h2
    refine ⟨gName i, pg_name nd (by rw [N]; exact h1) hx hf, fun d v G Hb ad env σ H k Q hk _ r E q => ?_⟩
    exact q _ _ hk (E.set (sv := .d d) i r) (by simp) fun j hj => by rw [List.getElem?_set_ne (fun z => hj (by simp [tgSlots, z]))]
  | t is =>
    cases e <;> first | exact Bool.noConfusion h | skip
    rename_i es kk pos
    obtain ⟨t, p, l1, l2, l3, w⟩ := tgs_ok (pr := pr) (n := n) N nd sc fb is es h
    refine ⟨_, pg_tup hc p l2 l3, fun d v G Hb ad env σ H k Q hk sm r E q => ?_⟩
    cases d <;> first | exact hk.elim | skip
    rename_i ds
    cases r with
    | tup h1 r1 =>
      exact ⟨_, _, rfl, SqT.of (sm _ _ h1), by rw [r1.length, ← l1]; exact hk.1.symm, w ds _ G Hb ad env σ H Q hk.1 r1 E fun σ' E' a b => q _ σ' hk.2 E' a b⟩
end PD

namespace PD
open PySem L2
/-! ## small facts of the syntax -/
theorem star_of {e : Expr} {es : List Expr} {env : PySem.Env} (h : noStar e = true) : starEach (e :: es) env = (false, eval e env) :: starEach es env := by
  cases e <;> first | rfl | exact Bool.noConfusion h
theorem stars_of {pr : Pr} {me : Me} {env : PySem.Env} {pos : Pos} : ∀ {as : Es} {es : List Expr}, mEs pr as me es = true → (backTo pos (starEach es env)).any (·.1) = false
  | .nil, [], _ => rfl
  | .nil, _ :: _, h => Bool.noConfusion h
  | .cons _ _, [], h => Bool.noConfusion h
  | .cons a as, e :: es, h => by
    unfold mEs at h
    simp only [Bool.and_eq_true] at h
    have ih := stars_of (env := env) (pos := pos) h.2
    rw [star_of h.1.1]
    unfold backTo at ih ⊢
    rw [List.map_cons, List.any_cons, ih]
    rfl
theorem ix_of {e : Expr} (h : noSlice e = true) : PlainIx e := by
  intro o i
  cases e <;> first | rfl | exact Bool.noConfusion h
theorem mark_of {op : CmpOp} {e : Expr} (h : noSet e = true) : behindInMarks op e = false := by
  cases e <;> first | rfl | exact Bool.noConfusion h
theorem fold_of {e : Expr} {env : PySem.Env} (h : noSet e = true) : ∀ x, foldedSetIterable e env x = pure x := by
  intro x
  cases e <;> first | rfl | exact Bool.noConfusion h
theorem swap_of {e : Expr} {t : Option Expr} {l : Nat} {env : PySem.Env} (h : noComp e = true) : swapsWith e t l env = pure false := by
  cases e <;> first | rfl | exact Bool.noConfusion h
theorem base_of {e : Expr} {f : Str} {env : PySem.Env} (h : noCall e = true) : attributeBase e f env (eval e env) = eval e env := by
  cases e <;> first | rfl | exact Bool.noConfusion h
theorem test_of {e : Expr} {env : PySem.Env} (h : plainT e = true) : ∀ whole, isTrue e env whole = (do let v ← whole; standAt e.pos; holding [v] (truthy v)) := by
  intro whole
  cases e <;> first | rfl | exact Bool.noConfusion h | skip
  case UnaryOp op _ _ => cases op <;> first | rfl | exact Bool.noConfusion h
theorem gl_of {X : Cx} {me : Me} {x : Str} (sc : X.env.scope = me.sc) (h : glB me.sc x = true) : Gl X x := by
  unfold glB at h
  show X.env.scope.names.lookup x = some .globalImplicit
  rw [sc]
  cases q : me.sc.names.lookup x with
  | none => rw [q] at h; cases h
  | some kk => rw [q] at h; cases kk <;> first | (cases h; done) | rfl
theorem vis_of {X : Cx} {me : Me} {x : Str} (sc : X.env.scope = me.sc) (h : visB me.sc x = true) : Vis X.env.scope x := by
  unfold visB at h
  unfold Vis
  rw [sc]
  cases q : me.sc.names.lookup x with
  | none => rw [q] at h; cases h
  | some kk => rw [q] at h; cases kk <;> first | (cases h; done) | exact .inl rfl | exact .inr (.inl rfl) | exact .inr (.inr rfl)
theorem dbg_of {x : Str} (h : dbgB x = true) : (x == ("__debug__" : Str)) = false ∧ (x == ("__classdict__" : Str)) = false := by
  unfold dbgB at h
  simp only [Bool.and_eq_true, Bool.not_eq_true'] at h
  exact h
/-- the block of a comprehension is a context too -/
theorem Ctx.blk {pr : Pr} {n : Nat} {me : Me} {X : Cx} (C : Ctx pr n me X) (s : Shared) (H : Hp) (scope : Scope) (Ce : Addr) (cl : List (Str × Addr)) (fp : List Addr) :
    Ctx pr n (blkMe me scope) (X.blk s H scope (compEnvC scope cl Ce X.env) fp) :=
  ⟨C.K, C.N, by
    show relabel scope X.env = relS scope me.sc
    rw [← C.sc]
    rfl, C.nd, C.calm, C.room, fun x h => h, C.fns, C.blt, C.gcs⟩
section
variable {pr : Pr} {n : Nat}
theorem se_var (i : Nat) : SE pr n (.var i) := by
  intro me X W e m env L k z Hb H ad σ Q C tk mh h R E Z hk
  cases e <;> first | exact Bool.noConfusion mh | skip
  rename_i x pos
  have mh : (decide (me.N[i]? = some x) && visB me.sc x && dbgB x) = true := mh
  simp only [Bool.and_eq_true, decide_eq_true_eq] at mh
  obtain ⟨⟨h1, h2⟩, h3⟩ := mh
  obtain ⟨d1, d2⟩ := dbg_of h3
  unfold wpE at h
  cases q : env[i]? with
  | none => rw [q] at h; exact h.elim
  | some o =>
    cases o with
    | none => rw [q] at h; exact h.elim
    | some sv =>
      rw [q] at h
      obtain ⟨v, e1, r⟩ := E.at_ i sv q
      exact wX.by (pe_var (by rw [C.N]; exact h1) (vis_of C.sc h2) d1 d2) ⟨v, e1, hk v sv L Hb H ad h R Stp.refl r⟩
theorem se_gc (i : Nat) : SE pr n (.gc i) := by
  intro me X W e m env L k z Hb H ad σ Q C tk mh h R E Z hk
  cases e <;> first | exact Bool.noConfusion mh | skip
  rename_i x pos
  have mh : (decide (i < pr.gcn) && decide (x = pr.gn i) && glB me.sc x && dbgB x) = true := mh
  simp only [Bool.and_eq_true, decide_eq_true_eq] at mh
  obtain ⟨⟨⟨h1, rfl⟩, h2⟩, h3⟩ := mh
  obtain ⟨d1, d2⟩ := dbg_of h3
  unfold wpE at h
  obtain ⟨u, v, g1, g2, g3⟩ := C.gcs i h1
  exact wX.by (pe_glob (gl_of C.sc h2) g1 g2 d1) (hk v _ L Hb H ad h R Stp.refl (g3 Hb))
theorem se_const {a : E} {d : D} {v : V} (hm : ∀ me e, mE pr a me e = true → ∀ X : Cx, PE X e (tC v)) (hw : ∀ m env L k z, wpE (Gam pr n) pr.gc a m env L k z → k (.d d) L) (hr : ∀ G H, Rep G H v d) : SE pr n a := by
  intro me X W e m env L k z Hb H ad σ Q C tk mh h R E Z hk
  exact wX.by (hm me e mh X) (hk v _ L Hb H ad (hw _ _ _ _ _ h) R Stp.refl (hr _ _))
theorem se_non : SE pr n .non := se_const (d := .non) (fun me e h X => by
  cases e <;> first | exact Bool.noConfusion h | skip
  rename_i c _ _
  cases c <;> first | exact Bool.noConfusion h | exact pe_non) (fun _ _ _ _ _ h => by unfold wpE at h; exact h) fun _ _ => .non
theorem se_bl (b : Bool) : SE pr n (.bl b) := se_const (d := .bl b) (fun me e h X => by
  cases e <;> first | exact Bool.noConfusion h | skip
  rename_i c _ _
  cases c <;> first | exact Bool.noConfusion h | skip
  rename_i c
  have h : (b == c) = true := h
  rw [beq_iff_eq] at h
  subst h
  exact pe_bl) (fun _ _ _ _ _ h => by unfold wpE at h; exact h) fun _ _ => .bl b
theorem se_int (b : Int) : SE pr n (.int b) := se_const (d := .int b) (fun me e h X => by
  cases e <;> first | exact Bool.noConfusion h | skip
  rename_i c _ _
  cases c <;> first | exact Bool.noConfusion h | skip
  rename_i c
  have h : (b == c) = true := h
  rw [beq_iff_eq] at h
  subst h
  exact pe_int) (fun _ _ _ _ _ h => by unfold wpE at h; exact h) fun _ _ => .int b
theorem se_str (b : Str) : SE pr n (.str b) := se_const (d := .str b) (fun me e h X => by
  cases e <;> first | exact Bool.noConfusion h | skip
  rename_i c _ _
  cases c <;> first | exact Bool.noConfusion h | skip
  rename_i c
  have h : decide (b = c) = true := h
  rw [decide_eq_true_eq] at h
  subst h
  exact pe_str) (fun _ _ _ _ _ h => by unfold wpE at h; exact h) fun _ _ => .str b
theorem se_bin (op : BOp) {a b : E} (ha : SE pr n a) (hb : SE pr n b) : SE pr n (.bin op a b) := by
  intro me X W e m env L k z Hb H ad σ Q C tk mh h R E Z hk
  cases e <;> first | exact Bool.noConfusion mh | skip
  rename_i ea o eb pos
  have mh : (opM op o && mE pr a me ea && mE pr b me eb) = true := mh
  simp only [Bool.and_eq_true] at mh
  obtain ⟨⟨m1, m2⟩, m3⟩ := mh
  unfold wpE at h
  refine wX.by (pe_op rW.op wX.pe wX.pe) ?_
  refine two ha hb C tk m2 m3 h R E Z fun v w x y L2 Hb2 H2 ad2 hh R2 s2 r1 r2 => ?_
  cases q1 : den L2 x with
  | none => simp only [q1] at hh
  | some u =>
    cases q2 : den L2 y with
    | none => simp only [q1, q2] at hh
    | some u' =>
      simp only [q1, q2] at hh
      exact opB_ok m1 hh R2 (hk.step s2) (R2.read r1 q1) (R2.read r2 q2)
theorem se_neg {a : E} (ha : SE pr n a) : SE pr n (.neg a) := by
  intro me X W e m env L k z Hb H ad σ Q C tk mh h R E Z hk
  cases e <;> first | exact Bool.noConfusion mh | skip
  rename_i o ea pos
  cases o <;> first | exact Bool.noConfusion mh | skip
  have mh : mE pr a me ea = true := mh
  unfold wpE at h
  refine wX.by (pe_un un_neg wX.pe) ?_
  refine ha C tk mh h R E Z fun v x L1 Hb1 H1 ad1 hh R1 s1 r1 => ?_
  cases q1 : den L1 x with
  | none => simp only [q1] at hh
  | some u =>
    simp only [q1] at hh
    cases u <;> first | exact hh.elim | skip
    rw [(R1.read r1 q1).int]
    exact ⟨_, rfl, hk _ _ _ _ _ _ hh R1 s1 (.int _)⟩
theorem cmp_run {op : COp} {o : CmpOp} {a b : E} (ha : SE pr n a) (hb : SE pr n b) {me : Me} {X : Cx} {W : WX} {ea eb : Expr} {m : Bool} {env : Env} {L : Tab} {k : KV} {z : Xn → Tab → Prop} {Hb H : Hp} {ad : List Addr} {σ : St} {Q : VK} (C : Ctx pr n me X) (tk : Takes X W)
    (m1 : copM op o = true) (m2 : mE pr a me ea = true) (m3 : mE pr b me eb = true) (h : wpE (Gam pr n) pr.gc (.cmp op a b) m env L k z) (R : Rel pr.G Hb H ad L) (E : EnvR pr.G Hb ad env σ) (Z : ZOk pr.G z W σ Hb H ad)
    (fin : ∀ b L' Hb' H' ad', k (.d (.bl b)) L' → Rel pr.G Hb' H' ad' L' → Stp Hb H ad Hb' H' ad' → Q (.bl b) H') : tOp (rW X (compareOp o)) (wX X ea) (wX X eb) σ H Q := by
  unfold wpE at h
  refine two ha hb C tk m2 m3 h R E Z fun v w x y L2 Hb2 H2 ad2 hh R2 s2 r1 r2 => ?_
  cases q1 : den L2 x with
  | none => simp only [q1] at hh
  | some u =>
    cases q2 : den L2 y with
    | none => simp only [q1, q2] at hh
    | some u' =>
      simp only [q1, q2] at hh
      exact cmpD_ok C m1 hh R2 (fun b hb => fin _ _ _ _ _ hb R2 s2) (R2.read r1 q1) (R2.read r2 q2)
theorem cmp_form {op : COp} {a b : E} {me : Me} {ea : Expr} {ops : List CmpOp} {cs : List Expr} {pos : Pos} (mh : mE pr (.cmp op a b) me (.Compare ea ops cs pos) = true) :
    ∃ o eb, ops = [o] ∧ cs = [eb] ∧ copM op o = true ∧ mE pr a me ea = true ∧ mE pr b me eb = true ∧ noSet eb = true := by
  match ops, cs, mh with
  | [o], [eb], mh =>
    have mh : (copM op o && mE pr a me ea && mE pr b me eb && noSet eb) = true := mh
    simp only [Bool.and_eq_true] at mh
    obtain ⟨⟨⟨m1, m2⟩, m3⟩, m4⟩ := mh
    exact ⟨o, eb, rfl, rfl, m1, m2, m3, m4⟩
  | [], _, mh => exact Bool.noConfusion mh
  | [_], [], mh => exact Bool.noConfusion mh
  | [_], _ :: _ :: _, mh => exact Bool.noConfusion mh
  | _ :: _ :: _, _, mh => exact Bool.noConfusion mh
theorem se_cmp (op : COp) {a b : E} (ha : SE pr n a) (hb : SE pr n b) : SE pr n (.cmp op a b) := by
  intro me X W e m env L k z Hb H ad σ Q C tk mh h R E Z hk
  cases e <;> first | exact Bool.noConfusion mh | skip
  obtain ⟨o, eb, rfl, rfl, m1, m2, m3, m4⟩ := cmp_form mh
  exact wX.by (pe_cmpR rW.op wX.pe wX.pe (mark_of m4)) (cmp_run ha hb C tk m1 m2 m3 h R E Z fun b L' Hb' H' ad' hb R' s' => hk _ _ _ _ _ _ hb R' s' (.bl b))
theorem cmpT_form {op : COp} {a b : E} {me : Me} {ea : Expr} {ops : List CmpOp} {cs : List Expr} {pos : Pos} (mh : mT pr (.cmp op a b) me (.Compare ea ops cs pos) = true) :
    ∃ o eb, ops = [o] ∧ cs = [eb] ∧ copM op o = true ∧ mE pr a me ea = true ∧ mE pr b me eb = true ∧ noSet eb = true := by
  match ops, cs, mh with
  | [o], [eb], mh =>
    have mh : (copM op o && mE pr a me ea && mE pr b me eb && noSet eb) = true := mh
    simp only [Bool.and_eq_true] at mh
    obtain ⟨⟨⟨m1, m2⟩, m3⟩, m4⟩ := mh
    exact ⟨o, eb, rfl, rfl, m1, m2, m3, m4⟩
  | [], _, mh => exact Bool.noConfusion mh
  | [_], [], mh => exact Bool.noConfusion mh
  | [_], _ :: _ :: _, mh => exact Bool.noConfusion mh
  | _ :: _ :: _, _, mh => exact Bool.noConfusion mh
/-- a bool's continuation as a value's -/
def ofB (k : Bool → Tab → Prop) : KV := fun x L => match x with
  | .d (.bl b) => k b L
  | _ => False
theorem st_cmp (op : COp) {a b : E} (ha : SE pr n a) (hb : SE pr n b) : ST pr n (.cmp op a b) := by
  intro me X W e env L k z Hb H ad σ Q C tk mh h R E Z hk
  cases e <;> first | exact Bool.noConfusion mh | skip
  obtain ⟨o, eb, rfl, rfl, m1, m2, m3, m4⟩ := cmpT_form mh
  unfold wpT at h
  have h' : wpE (Gam pr n) pr.gc (.cmp op a b) false env L (ofB k) z := by unfold wpE; exact h
  exact wT.by (pt_cmpR rW.op wX.pe wX.pe (mark_of m4)) (cmp_run ha hb C tk m1 m2 m3 h' R E Z fun b L' Hb' H' ad' hb R' s' => ⟨b, rfl, hk b L' Hb' H' ad' hb R' s'⟩)
theorem lm2 {o o' : CmpOp} {eb ec : Expr} (h : noSet ec = true) : lastMarks [o, o'] [eb, ec] = false := mark_of (op := o') h
theorem chain_run {o1 o2 : COp} {p1 p2 : CmpOp} {a b c : E} (ha : SE pr n a) (hb : SE pr n b) (hc : SE pr n c) {me : Me} {X : Cx} {W : WX} {ea eb ec : Expr} {m : Bool} {env : Env} {L : Tab} {k : KV} {z : Xn → Tab → Prop} {Hb H : Hp} {ad : List Addr} {σ : St} {Q : VK} (C : Ctx pr n me X) (tk : Takes X W)
    (m1 : copM o1 p1 = true) (m1' : copM o2 p2 = true) (m2 : mE pr a me ea = true) (m3 : mE pr b me eb = true) (m5 : mE pr c me ec = true) (h : wpE (Gam pr n) pr.gc (.chain o1 o2 a b c) m env L k z) (R : Rel pr.G Hb H ad L) (E : EnvR pr.G Hb ad env σ) (Z : ZOk pr.G z W σ Hb H ad)
    (fin : ∀ b L' Hb' H' ad', k (.d (.bl b)) L' → Rel pr.G Hb' H' ad' L' → Stp Hb H ad Hb' H' ad' → Q (.bl b) H') : tChain (rW X (compareOp p1)) (rW X (compareOp p2)) (wX X ea) (wX X eb) (wX X ec) σ H Q := by
  unfold wpE at h
  refine two ha hb C tk m2 m3 h R E Z fun v w x y L2 Hb2 H2 ad2 hh R2 s2 r1 r2 => ?_
  cases q1 : den L2 x with
  | none => simp only [q1] at hh
  | some u =>
    cases q2 : den L2 y with
    | none => simp only [q1, q2] at hh
    | some u' =>
      simp only [q1, q2] at hh
      refine cmpD_ok C m1 hh R2 (fun b hb => ⟨b, rfl, ?_⟩) (R2.read r1 q1) (R2.read r2 q2)
      cases b with
      | false =>
        rw [if_neg Bool.false_ne_true]
        exact fin _ _ _ _ _ hb R2 s2
      | true =>
        rw [if_pos rfl]
        refine hc C tk m5 hb R2 (E.step s2) (Z.step s2) fun v3 x3 L3 Hb3 H3 ad3 hh3 R3 s3 r3 => ?_
        cases q3 : den L3 y with
        | none => simp only [q3] at hh3
        | some u3 =>
          cases q4 : den L3 x3 with
          | none => simp only [q3, q4] at hh3
          | some u4 =>
            simp only [q3, q4] at hh3
            exact cmpD_ok C m1' hh3 R3 (fun b hb => fin _ _ _ _ _ hb R3 (s2.trans s3)) (R3.read (r2.step s3) q3) (R3.read r3 q4)
theorem chain_form {o1 o2 : COp} {a b c : E} {me : Me} {ea : Expr} {ops : List CmpOp} {cs : List Expr} {pos : Pos} (mh : mE pr (.chain o1 o2 a b c) me (.Compare ea ops cs pos) = true) :
    ∃ p1 p2 eb ec, ops = [p1, p2] ∧ cs = [eb, ec] ∧ copM o1 p1 = true ∧ copM o2 p2 = true ∧ mE pr a me ea = true ∧ mE pr b me eb = true ∧ mE pr c me ec = true ∧ noSet ec = true := by
  match ops, cs, mh with
  | [p1, p2], [eb, ec], mh =>
    have mh : (copM o1 p1 && copM o2 p2 && mE pr a me ea && mE pr b me eb && mE pr c me ec && noSet ec) = true := mh
    simp only [Bool.and_eq_true] at mh
    obtain ⟨⟨⟨⟨⟨m1, m1'⟩, m2⟩, m3⟩, m5⟩, m4⟩ := mh
    exact ⟨p1, p2, eb, ec, rfl, rfl, m1, m1', m2, m3, m5, m4⟩
  | [], _, mh => exact Bool.noConfusion mh
  | [_], _, mh => exact Bool.noConfusion mh
  | [_, _], [], mh => exact Bool.noConfusion mh
  | [_, _], [_], mh => exact Bool.noConfusion mh
  | [_, _], _ :: _ :: _ :: _, mh => exact Bool.noConfusion mh
  | _ :: _ :: _ :: _, _, mh => exact Bool.noConfusion mh
theorem se_chain (o1 o2 : COp) {a b c : E} (ha : SE pr n a) (hb : SE pr n b) (hc : SE pr n c) : SE pr n (.chain o1 o2 a b c) := by
  intro me X W e m env L k z Hb H ad σ Q C tk mh h R E Z hk
  cases e <;> first | exact Bool.noConfusion mh | skip
  obtain ⟨p1, p2, eb, ec, rfl, rfl, m1, m1', m2, m3, m5, m4⟩ := chain_form mh
  exact wX.by (pe_chain rW.op rW.op wX.pe wX.pe wX.pe (lm2 m4)) (chain_run ha hb hc C tk m1 m1' m2 m3 m5 h R E Z fun b L' Hb' H' ad' hb R' s' => hk _ _ _ _ _ _ hb R' s' (.bl b))
theorem chainT_form {o1 o2 : COp} {a b c : E} {me : Me} {ea : Expr} {ops : List CmpOp} {cs : List Expr} {pos : Pos} (mh : mT pr (.chain o1 o2 a b c) me (.Compare ea ops cs pos) = true) :
    ∃ p1 p2 eb ec, ops = [p1, p2] ∧ cs = [eb, ec] ∧ copM o1 p1 = true ∧ copM o2 p2 = true ∧ mE pr a me ea = true ∧ mE pr b me eb = true ∧ mE pr c me ec = true ∧ noSet ec = true := by
  match ops, cs, mh with
  | [p1, p2], [eb, ec], mh =>
    have mh : (copM o1 p1 && copM o2 p2 && mE pr a me ea && mE pr b me eb && mE pr c me ec && noSet ec) = true := mh
    simp only [Bool.and_eq_true] at mh
    obtain ⟨⟨⟨⟨⟨m1, m1'⟩, m2⟩, m3⟩, m5⟩, m4⟩ := mh
    exact ⟨p1, p2, eb, ec, rfl, rfl, m1, m1', m2, m3, m5, m4⟩
  | [], _, mh => exact Bool.noConfusion mh
  | [_], _, mh => exact Bool.noConfusion mh
  | [_, _], [], mh => exact Bool.noConfusion mh
  | [_, _], [_], mh => exact Bool.noConfusion mh
  | [_, _], _ :: _ :: _ :: _, mh => exact Bool.noConfusion mh
  | _ :: _ :: _ :: _, _, mh => exact Bool.noConfusion mh
theorem st_chain (o1 o2 : COp) {a b c : E} (ha : SE pr n a) (hb : SE pr n b) (hc : SE pr n c) : ST pr n (.chain o1 o2 a b c) := by
  intro me X W e env L k z Hb H ad σ Q C tk mh h R E Z hk
  cases e <;> first | exact Bool.noConfusion mh | skip
  obtain ⟨p1, p2, eb, ec, rfl, rfl, m1, m1', m2, m3, m5, m4⟩ := chainT_form mh
  unfold wpT at h
  have h' : wpE (Gam pr n) pr.gc (.chain o1 o2 a b c) false env L (ofB k) z := by unfold wpE; exact h
  exact wT.by (pt_chain rW.op rW.op wX.pe wX.pe wX.pe (lm2 m4)) (chain_run ha hb hc C tk m1 m1' m2 m3 m5 h' R E Z fun b L' Hb' H' ad' hb R' s' => ⟨b, rfl, hk b L' Hb' H' ad' hb R' s'⟩)
/-- the reading of a truth value -/
theorem and_run {me : Me} {X : Cx} {W : WX} {a b : E} {ea : Expr} {tb : TE} {env : Env} {L : Tab} {k : KV} {z : Xn → Tab → Prop} {Hb H : Hp} {ad : List Addr} {σ : St} {Q : VK} (ha : SE pr n a) (C : Ctx pr n me X) (tk : Takes X W) (ma : mE pr a me ea = true)
    (h : wpE (Gam pr n) pr.gc (.and a b) false env L k z) (R : Rel pr.G Hb H ad L) (E : EnvR pr.G Hb ad env σ) (Z : ZOk pr.G z W σ Hb H ad) (hk : KOk pr.G k Q Hb H ad)
    (hb : ∀ L1 Hb1 H1 ad1, wpE (Gam pr n) pr.gc b false env L1 k z → Rel pr.G Hb1 H1 ad1 L1 → Stp Hb H ad Hb1 H1 ad1 → tb σ H1 Q) : tAndV (wX X ea) tb σ H Q := by
  unfold wpE at h
  refine ha C tk ma h R E Z fun v x L1 Hb1 H1 ad1 hh R1 s1 r1 => ?_
  cases x <;> first | exact hh.elim | skip
  rename_i x
  cases x <;> first | exact hh.elim | skip
  rename_i c
  cases (show Rep pr.G Hb1 v (.bl c) from r1)
  refine ⟨c, rfl, ?_⟩
  cases c with
  | true => rw [if_pos rfl]; exact hb L1 Hb1 H1 ad1 (hh.1 rfl) R1 s1
  | false => rw [if_neg Bool.false_ne_true]; exact hk _ _ _ _ _ _ (hh.2 rfl) R1 s1 (.bl false)
theorem or_run {me : Me} {X : Cx} {W : WX} {a b : E} {ea : Expr} {tb : TE} {env : Env} {L : Tab} {k : KV} {z : Xn → Tab → Prop} {Hb H : Hp} {ad : List Addr} {σ : St} {Q : VK} (ha : SE pr n a) (C : Ctx pr n me X) (tk : Takes X W) (ma : mE pr a me ea = true)
    (h : wpE (Gam pr n) pr.gc (.or a b) false env L k z) (R : Rel pr.G Hb H ad L) (E : EnvR pr.G Hb ad env σ) (Z : ZOk pr.G z W σ Hb H ad) (hk : KOk pr.G k Q Hb H ad)
    (hb : ∀ L1 Hb1 H1 ad1, wpE (Gam pr n) pr.gc b false env L1 k z → Rel pr.G Hb1 H1 ad1 L1 → Stp Hb H ad Hb1 H1 ad1 → tb σ H1 Q) : tOrV (wX X ea) tb σ H Q := by
  unfold wpE at h
  refine ha C tk ma h R E Z fun v x L1 Hb1 H1 ad1 hh R1 s1 r1 => ?_
  cases x <;> first | exact hh.elim | skip
  rename_i x
  cases x <;> first | exact hh.elim | skip
  rename_i c
  cases (show Rep pr.G Hb1 v (.bl c) from r1)
  refine ⟨c, rfl, ?_⟩
  cases c with
  | true => rw [if_pos rfl]; exact hk _ _ _ _ _ _ (hh.1 rfl) R1 s1 (.bl true)
  | false => rw [if_neg Bool.false_ne_true]; exact hb L1 Hb1 H1 ad1 (hh.2 rfl) R1 s1
theorem se_and {a b : E} (ha : SE pr n a) (hb : SE pr n b) : SE pr n (.and a b) := by
  intro me X W e m env L k z Hb H ad σ Q C tk mh h R E Z hk
  cases e <;> first | exact Bool.noConfusion mh | skip
  rename_i o es pos
  cases o <;> first | exact Bool.noConfusion mh | skip
  have h' : wpE (Gam pr n) pr.gc (.and a b) false env L k z := by unfold wpE at h ⊢; exact h
  match es, mh with
  | [ea, eb], mh =>
    have mh : (mE pr a me ea && mE pr b me eb) = true := mh
    simp only [Bool.and_eq_true] at mh
    exact wX.by (pe_and wX.pe (pe_one wX.pe)) (and_run ha C tk mh.1 h' R E Z hk fun L1 Hb1 H1 ad1 h1 R1 s1 => hb C tk mh.2 h1 R1 (E.step s1) (Z.step s1) (hk.step s1))
  | ea :: eb :: ec :: es, mh =>
    have mh : (mE pr a me ea && mE pr b me (.BoolOp .And (eb :: ec :: es) pos)) = true := mh
    simp only [Bool.and_eq_true] at mh
    exact wX.by (pe_and wX.pe wX.pe) (and_run ha C tk mh.1 h' R E Z hk fun L1 Hb1 H1 ad1 h1 R1 s1 => hb C tk mh.2 h1 R1 (E.step s1) (Z.step s1) (hk.step s1))
  | [], mh => exact Bool.noConfusion mh
  | [_], mh => exact Bool.noConfusion mh
theorem se_or {a b : E} (ha : SE pr n a) (hb : SE pr n b) : SE pr n (.or a b) := by
  intro me X W e m env L k z Hb H ad σ Q C tk mh h R E Z hk
  cases e <;> first | exact Bool.noConfusion mh | skip
  rename_i o es pos
  cases o <;> first | exact Bool.noConfusion mh | skip
  have h' : wpE (Gam pr n) pr.gc (.or a b) false env L k z := by unfold wpE at h ⊢; exact h
  match es, mh with
  | [ea, eb], mh =>
    have mh : (mE pr a me ea && mE pr b me eb) = true := mh
    simp only [Bool.and_eq_true] at mh
    exact wX.by (pe_or wX.pe (pe_one wX.pe)) (or_run ha C tk mh.1 h' R E Z hk fun L1 Hb1 H1 ad1 h1 R1 s1 => hb C tk mh.2 h1 R1 (E.step s1) (Z.step s1) (hk.step s1))
  | ea :: eb :: ec :: es, mh =>
    have mh : (mE pr a me ea && mE pr b me (.BoolOp .Or (eb :: ec :: es) pos)) = true := mh
    simp only [Bool.and_eq_true] at mh
    exact wX.by (pe_or wX.pe wX.pe) (or_run ha C tk mh.1 h' R E Z hk fun L1 Hb1 H1 ad1 h1 R1 s1 => hb C tk mh.2 h1 R1 (E.step s1) (Z.step s1) (hk.step s1))
  | [], mh => exact Bool.noConfusion mh
  | [_], mh => exact Bool.noConfusion mh
theorem se_not {a : E} (ha : SE pr n a) : SE pr n (.not a) := by
  intro me X W e m env L k z Hb H ad σ Q C tk mh h R E Z hk
  cases e <;> first | exact Bool.noConfusion mh | skip
  rename_i o ea pos
  cases o <;> first | exact Bool.noConfusion mh | skip
  have mh : mE pr a me ea = true := mh
  unfold wpE at h
  refine wX.by (pe_not wX.pe) ?_
  refine ha C tk mh h R E Z fun v x L1 Hb1 H1 ad1 hh R1 s1 r1 => ?_
  cases x <;> first | exact hh.elim | skip
  rename_i x
  cases x <;> first | exact hh.elim | skip
  rename_i c
  cases (show Rep pr.G Hb1 v (.bl c) from r1)
  exact ⟨c, rfl, hk _ _ _ _ _ _ hh R1 s1 (.bl _)⟩
theorem se_ife {c : T} {a b : E} (hc : ST pr n c) (ha : SE pr n a) (hb : SE pr n b) : SE pr n (.ife c a b) := by
  intro me X W e m env L k z Hb H ad σ Q C tk mh h R E Z hk
  cases e <;> first | exact Bool.noConfusion mh | skip
  rename_i ec ea eb pos
  have mh : (mT pr c me ec && mE pr a me ea && mE pr b me eb) = true := mh
  simp only [Bool.and_eq_true] at mh
  unfold wpE at h
  refine wX.by (pe_ifExp wT.pt wX.pe wX.pe) ?_
  refine hc C tk mh.1.1 h R E Z fun r L1 Hb1 H1 ad1 hh R1 s1 => ?_
  cases r with
  | true => rw [if_pos rfl]; exact ha C tk mh.1.2 (hh.1 rfl) R1 (E.step s1) (Z.step s1) (hk.step s1)
  | false => rw [if_neg Bool.false_ne_true]; exact hb C tk mh.2 (hh.2 rfl) R1 (E.step s1) (Z.step s1) (hk.step s1)
end
end PD

namespace PD
open PySem L2
section
variable {pr : Pr} {n : Nat}
theorem ses_nil : SEs pr n .nil := by
  intro me X W es env L k z Hb H ad σ Q C tk mh h R E Z hk
  cases es with
  | cons _ _ => exact Bool.noConfusion mh
  | nil =>
    unfold wpEs at h
    exact wA.by pa_nil (hk [] [] L Hb H ad h R Stp.refl .nil)
theorem ses_cons {a : E} {as : Es} (ha : SE pr n a) (hs : SEs pr n as) : SEs pr n (.cons a as) := by
  intro me X W es env L k z Hb H ad σ Q C tk mh h R E Z hk
  cases es with
  | nil => exact Bool.noConfusion mh
  | cons e es =>
    have mh : (noStar e && mE pr a me e && mEs pr as me es) = true := mh
    simp only [Bool.and_eq_true] at mh
    unfold wpEs at h
    refine wA.by (pa_cons wX.pe wA.pa (star_of mh.1.1)) ?_
    refine ha C tk mh.1.2 h R E Z fun v x L1 Hb1 H1 ad1 hh R1 s1 r1 => ?_
    exact hs C tk mh.2 hh R1 (E.step s1) (Z.step s1) fun vs xs L2 Hb2 H2 ad2 h2 R2 s2 r2 => hk _ _ _ _ _ _ h2 R2 (s1.trans s2) (.cons (r1.step s2) r2)
/-! ### calls -/
theorem bi_name : ∀ f : Bi, biN f ∈ bltNames := by intro f; cases f <;> simp [biN, bltNames]
theorem bi_boot : ∀ f : Bi, bootBuiltins (biN f) = some (biV f) := by intro f; cases f <;> decide +kernel
theorem bi_ne : ∀ f : Bi, biN f ≠ ("__name__" : Str) ∧ (biN f == ("__debug__" : Str)) = false := by intro f; cases f <;> decide +kernel
theorem se_bi (f : Bi) {as : Es} (hs : SEs pr n as) : SE pr n (.bi f as) := by
  intro me X W e m env L k z Hb H ad σ Q C tk mh h R E Z hk
  cases e <;> first | exact Bool.noConfusion mh | skip
  rename_i ef es kws pos
  cases ef <;> first | exact Bool.noConfusion mh | skip
  rename_i x p
  match es, kws, mh with
  | e :: es, [], mh =>
    have mh : (decide (x = biN f) && glB me.sc x && mEs pr as me (e :: es)) = true := mh
    simp only [Bool.and_eq_true, decide_eq_true_eq] at mh
    obtain ⟨⟨rfl, m2⟩, m3⟩ := mh
    have st : noStar e = true := by
      cases as with
      | nil => exact Bool.noConfusion m3
      | cons a as => have m3' : (noStar e && mE pr a me e && mEs pr as me es) = true := m3; simp only [Bool.and_eq_true] at m3'; exact m3'.1.1
    have pl : (backTo pos (starEach es X.env)).any (·.1) = false := by
      cases as with
      | nil => exact Bool.noConfusion m3
      | cons a as => have m3' : (noStar e && mE pr a me e && mEs pr as me es) = true := m3; simp only [Bool.and_eq_true] at m3'; exact stars_of m3'.2
    unfold wpE at h
    have bt := bi_boot f
    have gl := gl_of (X := X) C.sc m2
    have nn := C.blt _ (bi_name f)
    have fin : tCB (rC X (biV f)) (wA X (e :: es)) σ H Q := hs C tk m3 h R E Z fun vs xs L1 Hb1 H1 ad1 hh R1 s1 r1 => by
      cases q1 : dens L1 xs with
      | none => simp only [q1] at hh
      | some ds =>
        simp only [q1] at hh
        exact biD_ok C hh R1 (hk.step s1) (RepSs.dens (vs := []) R1 r1 q1)
    cases f <;> first
      | exact wX.by (pe_callB rC.c gl nn bt wA.pa (bi_ne _).1 (bi_ne _).2 (star_of st) pl) fin
      | exact wX.by (pe_callTy rC.c gl nn bt wA.pa (bi_ne _).1 (bi_ne _).2 (star_of st) pl) fin
  | [], _, mh => exact Bool.noConfusion mh
  | _ :: _, _ :: _, mh => exact Bool.noConfusion mh
theorem RepSs.rep {G : Gs} {Hb H : Hp} {ad : List Addr} {L : Tab} (R : Rel G Hb H ad L) : ∀ {vs : List V} {svs : List SV} {ds : List D}, RepSs G Hb ad vs svs → PD.dens L svs = some ds → svs.any (owned L) = false → RepL G Hb vs ds
  | _, _, ds, .nil, e, _ => by cases e; exact .nil
  | _, sv :: svs, ds, .cons r t, e, o => by
    rw [List.any_cons, Bool.or_eq_false_iff] at o
    unfold PD.dens at e
    cases q : den L sv with
    | none => simp only [q] at e; cases e
    | some x =>
      cases q2 : PD.dens L svs with
      | none => simp only [q, q2] at e; cases e
      | some xs =>
        simp only [q, q2] at e
        cases e
        refine .cons ?_ (RepSs.rep R t q2 o.2)
        cases sv with
        | d y => cases q; exact r
        | c j =>
          obtain ⟨a, h1, rfl⟩ := r
          cases q3 : L[j]? with
          | none => rw [den_no q3] at q; cases q
          | some ct =>
            rw [den_c q3] at q
            cases q
            cases ct with
            | fz y => exact R.fz j y a q3 h1
            | lst ds => have := o.1; simp only [owned, q3] at this; cases this
            | ob u => have := o.1; simp only [owned, q3] at this; cases this
/-- the base with all own lists lent to it -/
noncomputable def lent (Hb H : Hp) (ad : List Addr) (L : Tab) : Hp := fun b => by
  classical exact if ∃ (j : Nat) (ct : Ct), L[j]? = some ct ∧ ct.live = true ∧ ad[j]? = some b then H b else Hb b
section
variable {G : Gs} {Hb H : Hp} {ad : List Addr} {L : Tab}
theorem lent_cell {j : Nat} {ct : Ct} {b : Addr} (h : L[j]? = some ct) (lv : ct.live = true) (h' : ad[j]? = some b) : lent Hb H ad L b = H b := by
  unfold lent
  rw [if_pos ⟨j, ct, h, lv, h'⟩]
theorem lent_base (R : Rel G Hb H ad L) : Same Hb (lent Hb H ad L) := fun b o h => by
  unfold lent
  rw [if_neg]
  · exact h
  · rintro ⟨j, ct, h1, lv, h2⟩
    have := (R.own j ct b h1 h2 lv).1
    rw [h] at this; cases this
theorem lent_heap (R : Rel G Hb H ad L) : Same (lent Hb H ad L) H := fun b o h => by
  unfold lent at h
  split at h
  · exact h
  · exact R.ext b o h
theorem RepSs.lent (R : Rel G Hb H ad L) : ∀ {vs : List V} {svs : List SV} {ds : List D}, RepSs G Hb ad vs svs → PD.dens L svs = some ds → RepL G (PD.lent Hb H ad L) vs ds
  | _, _, ds, .nil, e => by cases e; exact .nil
  | _, sv :: svs, ds, .cons r t, e => by
    unfold PD.dens at e
    cases q : den L sv with
    | none => simp only [q] at e; cases e
    | some x =>
      cases q2 : PD.dens L svs with
      | none => simp only [q, q2] at e; cases e
      | some xs =>
        simp only [q, q2] at e
        cases e
        refine .cons ?_ (RepSs.lent R t q2)
        cases sv with
        | d y => cases q; exact Rep.mono (lent_base R) r
        | c j =>
          obtain ⟨a, h1, rfl⟩ := r
          cases q3 : L[j]? with
          | none => rw [den_no q3] at q; cases q
          | some ct =>
            rw [den_c q3] at q
            cases q
            cases lv : ct.live with
            | true =>
              obtain ⟨_, oo, h2, h3⟩ := R.own j ct a q3 h1 lv
              exact (h3.mono (lent_base R)).rep (by rw [lent_cell q3 lv h1]; exact h2)
            | false =>
              cases ct with
              | fz y => exact (R.fz j y a q3 h1).mono (lent_base R)
              | lst ds => cases lv
              | ob u => cases lv
/-- what comes back as a new list -/
theorem back_new {m : Bool} {ds : List D} {k : KV} {Q : VK} {Hb1 H1 : Hp} {a : Addr} {vs : List V} (h : mkL m ds L k) (R : Rel G Hb H ad L) (sb : Same Hb Hb1) (sh : Same H H1) (sx : Same Hb1 H1) (bs : ∀ a, Hb a = none → Hb1 a ≠ none → H a = none)
    (hk : KOk G k Q Hb H ad) (ha : H a = none) (hb : Hb1 a = none) (e : H1 a = some (.lst vs)) (r : RepL G Hb1 vs ds) : Q (.ref a) H1 := by
  have e2 : upd (fun b => if b = a then none else H1 b) a (.lst vs) = H1 := by
    funext b
    unfold upd
    by_cases q : b = a
    · rw [if_pos q, q, e]
    · rw [if_neg q]; simp only [if_neg q]
  have n1 : ∀ {b : Addr} {o : HO}, H b = some o → b ≠ a := fun {b o} h z => by rw [z, ha] at h; cases h
  have n2 : ∀ {b : Addr} {o : HO}, Hb1 b = some o → b ≠ a := fun {b o} h z => by rw [z, hb] at h; cases h
  obtain ⟨R1, s1⟩ := R.after (H1 := fun b => if b = a then none else H1 b) sb (fun b o h => by simp only [if_neg (n1 h)]; exact sh b o h) (fun b o h => by simp only [if_neg (n2 h)]; exact sx b o h) bs
  have q := mkL_ok h R1 (hk.step s1) r (p := a) (by simp)
  rw [e2] at q
  exact q
end
theorem call_run {me : Me} {X : Cx} {W : WX} {f : Nat} {m : Bool} {L : Tab} {k : KV} {z : Xn → Tab → Prop} {Hb H : Hp} {ad : List Addr} {σ : St} {Q : VK} {vs : List V} {xs : List SV} {ds : List D}
    (hh : Gam pr n f ds (fun r => (xs.any (owned L) = true → r.flat = true) ∧ rsK m L k r) (fun x => z x L))
    (R : Rel pr.G Hb H ad L) (Z : ZOk pr.G z W σ Hb H ad) (hk : KOk pr.G k Q Hb H ad) (r : RepSs pr.G Hb ad vs xs) (q : dens L xs = some ds) :
    spF pr.G (wpF pr.fn pr.gc n) f vs H Q (WE W σ) := by
  have exc : ∀ x cls d H', z x L → Same H H' → XRep pr.G H' x cls d → WE W σ cls d H' := fun x cls d H' hz sh xr => by
    obtain ⟨R2, s2⟩ := R.after (Hb1 := Hb) (Same.refl _) sh (R.ext.trans sh) (fun a h h' => absurd h h')
    exact Z x cls d L Hb H' ad hz R2 s2 xr
  cases o : xs.any (owned L) with
  | false =>
    refine ⟨ds, Hb, _, _, hh, R.ext, RepSs.rep R r q o, fun r v Hb' H' kr sb sh sx bs bk => ?_, exc⟩
    cases r with
    | v x =>
      obtain ⟨R1, s1⟩ := R.after sb sh sx bs
      exact hk _ (.d x) _ _ _ _ kr.2 R1 s1 bk
    | new es =>
      obtain ⟨a, ws, rfl, h1, h2, h3, h4⟩ := bk
      exact back_new kr.2 R sb sh sx bs hk h1 h2 h3 h4
  | true =>
    rw [o] at hh
    refine ⟨ds, PD.lent Hb H ad L, _, _, hh, lent_heap R, RepSs.lent R r q, fun r v Hb' H' kr sb sh sx bs bk => ?_, exc⟩
    have fl := kr.1 rfl
    cases r with
    | v x =>
      obtain ⟨R1, s1⟩ := R.after (Hb1 := Hb) (Same.refl _) sh (R.ext.trans sh) (fun a h h' => absurd h h')
      exact hk _ (.d x) _ _ _ _ kr.2 R1 s1 (Rep.ofFlat fl bk Hb)
    | new es =>
      obtain ⟨a, ws, rfl, h1, h2, h3, h4⟩ := bk
      refine back_new kr.2 R (Same.refl _) sh (R.ext.trans sh) (fun a h h' => absurd h h') hk h1 ?_ h3 (RepL.ofFlat Hb fl h4)
      cases e : Hb a with
      | none => rfl
      | some o => rw [R.ext a o e] at h1; cases h1
theorem se_call (f : Nat) {as : Es} (hs : SEs pr n as) : SE pr n (.call f as) := by
  intro me X W e m env L k z Hb H ad σ Q C tk mh h R E Z hk
  cases e <;> first | exact Bool.noConfusion mh | skip
  rename_i ef es kws pos
  cases ef <;> first | exact Bool.noConfusion mh | skip
  rename_i x p
  match es, kws, mh with
  | e :: es, [], mh =>
    have mh : (decide (x = pr.nm f) && glB me.sc x && dbgB x && (pr.fn f).isSome && mEs pr as me (e :: es)) = true := mh
    simp only [Bool.and_eq_true, decide_eq_true_eq] at mh
    obtain ⟨⟨⟨⟨rfl, m2⟩, m4⟩, m5⟩, m3⟩ := mh
    have st : noStar e = true := by
      cases as with
      | nil => exact Bool.noConfusion m3
      | cons a as => have m3' : (noStar e && mE pr a me e && mEs pr as me es) = true := m3; simp only [Bool.and_eq_true] at m3'; exact m3'.1.1
    have pl : (backTo pos (starEach es X.env)).any (·.1) = false := by
      cases as with
      | nil => exact Bool.noConfusion m3
      | cons a as => have m3' : (noStar e && mE pr a me e && mEs pr as me es) = true := m3; simp only [Bool.and_eq_true] at m3'; exact stars_of m3'.2
    unfold wpE at h
    cases hf : pr.fn f with
    | none => rw [hf] at m5; cases m5
    | some F =>
      obtain ⟨a, fd, g1, g2, g3, g4⟩ := C.fns f F hf
      refine wX.by (pe_callS g4 C.room (gl_of C.sc m2) g1 g2 g3 (fun σ => passAt tk σ) wA.pa (dbg_of m4).1 (star_of st) pl) ?_
      refine hs C tk m3 h R E Z fun vs xs L1 Hb1 H1 ad1 hh R1 s1 r1 => ?_
      cases q1 : dens L1 xs with
      | none => simp only [q1] at hh
      | some ds =>
        simp only [q1] at hh
        exact call_run (me := me) (X := X) hh R1 (Z.step s1) (hk.step s1) r1 q1
  | [], _, mh => exact Bool.noConfusion mh
  | _ :: _, _ :: _, mh => exact Bool.noConfusion mh
theorem ty_boot : ∀ t : Ty, (tyD .non t).isSome = true → bootBuiltins (tyN t) = some (.type (tyS t)) ∧ tyN t ∈ bltNames ∧ tyN t ≠ ("__name__" : Str) ∧ (tyN t == ("__debug__" : Str)) = false := by
  intro t h
  cases t <;> first | (cases h; done) | exact ⟨by decide +kernel, by simp [tyN, bltNames], by decide +kernel, by decide +kernel⟩
theorem se_isi (t : Ty) {a : E} (ha : SE pr n a) : SE pr n (.isi a t) := by
  intro me X W e m env L k z Hb H ad σ Q C tk mh h R E Z hk
  cases e <;> first | exact Bool.noConfusion mh | skip
  rename_i ef es kws pos
  cases ef <;> first | exact Bool.noConfusion mh | skip
  rename_i x p
  rcases es with _ | ⟨ea, _ | ⟨ec, _ | ⟨_, _⟩⟩⟩ <;> first | exact Bool.noConfusion mh | skip
  all_goals cases ec <;> first | exact Bool.noConfusion mh | skip
  rcases kws with _ | ⟨_, _⟩ <;> first | exact Bool.noConfusion mh | skip
  rename_i y py
  have mh : (decide (x = ("isinstance" : Str)) && glB me.sc x && decide (y = tyN t) && glB me.sc y && noStar ea && (tyD .non t).isSome && mE pr a me ea) = true := mh
  simp only [Bool.and_eq_true, decide_eq_true_eq] at mh
  obtain ⟨⟨⟨⟨⟨⟨rfl, m2⟩, rfl⟩, m4⟩, m5⟩, m6⟩, m3⟩ := mh
  obtain ⟨b1, b2, b3, b4⟩ := ty_boot t m6
  unfold wpE at h
  refine wX.by (pe_callB rC.c (gl_of C.sc m2) (C.blt _ (by simp [bltNames])) PyProof.Rows.boot_isinstance (pa_cons wX.pe (pa_cons (pe_bltn (v := .ty (tyS t)) (gl_of C.sc m4) (C.blt _ b2) b1 rfl b3 b4) pa_nil) (star_of m5)) (by decide) (by decide) (star_of m5) rfl) ?_
  refine ha C tk m3 h R E Z fun v x L1 Hb1 H1 ad1 hh R1 s1 r1 => ?_
  cases q1 : den L1 x with
  | none => simp only [q1] at hh
  | some u =>
    simp only [q1] at hh
    cases q2 : tyD u t with
    | none => simp only [q2] at hh
    | some b =>
      simp only [q2] at hh
      exact tyD_ok q2 R1 C.K (R1.read r1 q1) (hk _ _ _ _ _ _ hh R1 s1 (.bl b))
/-! ### items, slices, displays -/
theorem se_idx {a i : E} (ha : SE pr n a) (hi : SE pr n i) : SE pr n (.idx a i) := by
  intro me X W e m env L k z Hb H ad σ Q C tk mh h R E Z hk
  cases e <;> first | exact Bool.noConfusion mh | skip
  rename_i ea ei pos
  have mh : (noSlice ei && mE pr a me ea && mE pr i me ei) = true := by cases ei <;> first | exact mh | skip
  simp only [Bool.and_eq_true] at mh
  unfold wpE at h
  refine wX.by (pe_ix rI.ix wX.pe wX.pe (ix_of mh.1.1)) ?_
  refine two ha hi C tk mh.1.2 mh.2 h R E Z fun v w x y L2 Hb2 H2 ad2 hh R2 s2 r1 r2 => ?_
  cases q1 : den L2 x with
  | none => simp only [q1] at hh
  | some u =>
    cases q2 : den L2 y with
    | none => simp only [q1, q2] at hh
    | some u' =>
      simp only [q1, q2] at hh
      exact idxD_ok hh R2 (hk.step s2) C.K (R2.read r1 q1) (R2.read r2 q2)
/-- a part of a slice -/
def wO (X : Cx) (l : Option Expr) : TO := fun σ H Q => ∀ (pins : List (Addr × Obj)) (s : Shared), Inv X pins σ H s → wpAny (model X.prog X.w) X.A (evalPart l X.env) (fun u s' => ∃ o H', Inv X pins σ H' s' ∧ IsPart u o ∧ Q o H') X.xe s
theorem wO.po {X : Cx} {l : Option Expr} : PO X l (wO X l) := ⟨fun pins s σ H Q I h => h pins s I⟩
theorem wO.by {X : Cx} {l : Option Expr} {t : TO} {σ : St} {H : Hp} {Q : Option Int → Hp → Prop} (p : PO X l t) (h : t σ H Q) : wO X l σ H Q := fun pins s I => p.run pins s σ H Q I h
def mO (pr : Pr) (lo : E) (me : Me) : Option Expr → Bool
  | none => isNo lo
  | some l => !isNo lo && mE pr lo me l
theorem part_ok {lo : E} (hl : SE pr n lo) {me : Me} {X : Cx} {W : WX} {l : Option Expr} {env : Env} {L : Tab} {k : SV → Tab → Prop} {z : Xn → Tab → Prop} {Hb H : Hp} {ad : List Addr} {σ : St} {Q : Option Int → Hp → Prop} (C : Ctx pr n me X) (tk : Takes X W)
    (ml : mO pr lo me l = true) (h : wpE (Gam pr n) pr.gc lo false env L k z) (R : Rel pr.G Hb H ad L) (E : EnvR pr.G Hb ad env σ) (Z : ZOk pr.G z W σ Hb H ad) (hp : ∀ sv L1, k sv L1 → (partD lo sv).isSome = true)
    (hk : ∀ sv L1 Hb1 H1 ad1 o, k sv L1 → Rel pr.G Hb1 H1 ad1 L1 → Stp Hb H ad Hb1 H1 ad1 → partD lo sv = some o → Q o H1) : wO X l σ H Q := by
  cases l with
  | none =>
    cases lo <;> first | exact Bool.noConfusion ml | skip
    unfold wpE at h
    exact wO.by po_none (hk _ _ _ _ _ none h R Stp.refl rfl)
  | some l =>
    have ml : (!isNo lo && mE pr lo me l) = true := ml
    simp only [Bool.and_eq_true] at ml
    obtain ⟨m0, ml⟩ := ml
    refine wO.by (po_some wX.pe) ?_
    refine hl C tk ml h R E Z fun v sv L1 Hb1 H1 ad1 hh R1 s1 r1 => ?_
    have q := hp sv L1 hh
    have key : ∀ i, sv = .d (.int i) → lo ≠ .non → ∃ i, v = .int i ∧ Q (some i) H1 := fun i e ne => by
      subst e
      cases (show Rep pr.G Hb1 v (.int i) from r1)
      exact ⟨i, rfl, hk _ _ _ _ _ (some i) hh R1 s1 (by cases lo <;> first | exact absurd rfl ne | rfl)⟩
    cases lo
    case non => cases m0
    all_goals
      cases sv <;> first | (cases q; done) | skip
      rename_i d
      cases d <;> first | (cases q; done) | skip
      exact key _ rfl (by intro z; cases z)
theorem se_slc {a lo hi : E} (ha : SE pr n a) (hl : SE pr n lo) (hh : SE pr n hi) : SE pr n (.slc a lo hi) := by
  intro me X W e m env L k z Hb H ad σ Q C tk mh h R E Z hk
  cases e <;> first | exact Bool.noConfusion mh | skip
  rename_i ea es pos
  cases es <;> first | exact Bool.noConfusion mh | skip
  rename_i l u st pos2
  cases st <;> first | exact Bool.noConfusion mh | skip
  have mh : (mE pr a me ea && mO pr lo me l && mO pr hi me u) = true := mh
  simp only [Bool.and_eq_true] at mh
  unfold wpE at h
  refine wX.by (pe_slice rS.sl wX.pe wO.po wO.po) ?_
  refine ha C tk mh.1.1 h R E Z fun v x L1 Hb1 H1 ad1 h1 R1 s1 r1 => ?_
  refine part_ok hl C tk mh.1.2 h1 R1 (E.step s1) (Z.step s1) (fun sv L2 h2 => ?_) fun sv L2 Hb2 H2 ad2 o h2 R2 s2 e2 => ?_
  · cases q : partD lo sv with
    | none => simp only [q] at h2
    | some _ => rfl
  · simp only [e2] at h2
    refine part_ok hh C tk mh.2 h2 R2 (E.step (s1.trans s2)) (Z.step (s1.trans s2)) (fun sv L3 h3 => ?_) fun sv L3 Hb3 H3 ad3 o' h3 R3 s3 e3 => ?_
    · cases q : partD hi sv with
      | none => simp only [q] at h3
      | some _ => rfl
    · simp only [e3] at h3
      cases q : den L3 x with
      | none => simp only [q] at h3
      | some u =>
        simp only [q] at h3
        have s4 := s1.trans (s2.trans s3)
        exact cutD_ok h3 R3 (hk.step s4) C.K (R3.read (r1.step (s2.trans s3)) q)
/-! ### displays -/
theorem se_lst {as : Es} (hs : SEs pr n as) : SE pr n (.lst as) := by
  intro me X W e m env L k z Hb H ad σ Q C tk mh h R E Z hk
  cases e <;> first | exact Bool.noConfusion mh | skip
  rename_i es pos
  have mh : mEs pr as me es = true := mh
  unfold wpE at h
  refine wX.by (pe_lst wA.pa) ?_
  refine hs C tk mh h R E Z fun vs xs L1 Hb1 H1 ad1 hh R1 s1 r1 => ?_
  cases q : dens L1 xs with
  | none => simp only [q] at hh
  | some ds =>
    simp only [q] at hh
    obtain ⟨Hb2, R2, s2, r2⟩ := RepSs.freeze R1 r1 q
    exact ⟨by rw [r2.length]; exact hh.1, fun p hp => mkL_ok hh.2 R2 (hk.step (s1.trans s2)) r2 hp⟩
theorem se_tup {as : Es} (hs : SEs pr n as) : SE pr n (.tup as) := by
  intro me X W e m env L k z Hb H ad σ Q C tk mh h R E Z hk
  cases e <;> first | exact Bool.noConfusion mh | skip
  rename_i es kk pos
  have mh : mEs pr as me es = true := mh
  unfold wpE at h
  refine wX.by (pe_tup wA.pa) ?_
  refine hs C tk mh h R E Z fun vs xs L1 Hb1 H1 ad1 hh R1 s1 r1 => ?_
  cases q : dens L1 xs with
  | none => simp only [q] at hh
  | some ds =>
    simp only [q] at hh
    obtain ⟨Hb2, R2, s2, r2⟩ := RepSs.freeze R1 r1 q
    refine ⟨by rw [r2.length]; exact hh.1, fun p hp => ?_⟩
    obtain ⟨R3, s3⟩ := R2.newF (o := .tup vs) hp
    exact hk _ (.d (.tup ds)) _ _ _ _ hh.2 R3 ((s1.trans s2).trans s3) (.tup upd_same (r2.mono s3.base))
theorem se_mklist {a : E} (ha : SE pr n a) : SE pr n (.mklist a) := by
  intro me X W e m env L k z Hb H ad σ Q C tk mh h R E Z hk
  cases e <;> first | exact Bool.noConfusion mh | skip
  rename_i ef es kws pos
  cases ef <;> first | exact Bool.noConfusion mh | skip
  rename_i x p
  rcases es with _ | ⟨ea, _ | ⟨_, _⟩⟩ <;> first | exact Bool.noConfusion mh | skip
  rcases kws with _ | ⟨_, _⟩ <;> first | exact Bool.noConfusion mh | skip
  have mh : (decide (x = ("list" : Str)) && glB me.sc x && noStar ea && mE pr a me ea) = true := mh
  simp only [Bool.and_eq_true, decide_eq_true_eq] at mh
  obtain ⟨⟨⟨rfl, m2⟩, m3⟩, m4⟩ := mh
  unfold wpE at h
  refine wX.by (pe_callTy call_list_of (gl_of C.sc m2) (C.blt _ (by simp [bltNames])) PyProof.Rows.boot_list (pa_cons wX.pe pa_nil (star_of m3)) (by decide) (by decide) (star_of m3) rfl) ?_
  refine ha C tk m4 h R E Z fun v x L1 Hb1 H1 ad1 hh R1 s1 r1 => ?_
  cases q1 : den L1 x with
  | none => simp only [q1] at hh
  | some u =>
    simp only [q1] at hh
    have px := R1.read r1 q1
    cases u <;> first | exact hh.elim | skip
    case lst ds =>
      obtain ⟨a, vs, rfl, h3, r2⟩ := px.lst R1.ext
      exact ⟨a, vs, rfl, .inl (SqL.of h3), fun l hl => mkL_ok (ds := ds) hh R1 (hk.step s1) r2 hl⟩
    case tup ds =>
      obtain ⟨a, vs, rfl, h3, r2⟩ := px.tup R1.ext
      exact ⟨a, vs, rfl, .inr (SqT.of h3), fun l hl => mkL_ok (ds := ds) hh R1 (hk.step s1) r2 hl⟩
    case scr ns =>
      obtain ⟨a, rfl, h3⟩ := px.scr R1.ext
      exact ⟨a, _, rfl, .inl (by rw [C.K]; exact h3), fun l hl => mkL_ok (ds := ns.map .int) hh R1 (hk.step s1) (RepL.ints ns) hl⟩
theorem se_mkrange {a : E} (ha : SE pr n a) : SE pr n (.mkrange a) := by
  intro me X W e m env L k z Hb H ad σ Q C tk mh h R E Z hk
  cases e <;> first | exact Bool.noConfusion mh | skip
  rename_i ef es kws pos
  cases ef <;> first | exact Bool.noConfusion mh | skip
  rename_i x p
  rcases es with _ | ⟨ec, es⟩ <;> first | exact Bool.noConfusion mh | skip
  cases ec <;> first | exact Bool.noConfusion mh | skip
  rename_i ef2 es2 kws2 pos2
  cases ef2 <;> first | exact Bool.noConfusion mh | skip
  rcases es2 with _ | ⟨ea, _ | ⟨_, _⟩⟩ <;> first | exact Bool.noConfusion mh | skip
  rcases kws2 with _ | ⟨_, _⟩ <;> first | exact Bool.noConfusion mh | skip
  rcases es with _ | ⟨_, _⟩ <;> first | exact Bool.noConfusion mh | skip
  rcases kws with _ | ⟨_, _⟩ <;> first | exact Bool.noConfusion mh | skip
  rename_i y py
  have mh : (decide (x = ("list" : Str)) && glB me.sc x && decide (y = ("range" : Str)) && glB me.sc y && noStar ea && mE pr a me ea) = true := mh
  simp only [Bool.and_eq_true, decide_eq_true_eq] at mh
  obtain ⟨⟨⟨⟨⟨rfl, m2⟩, rfl⟩, m3⟩, m4⟩, m5⟩ := mh
  unfold wpE at h
  refine wX.by (pe_listRg C.calm (gl_of C.sc m2) (C.blt _ (by simp [bltNames])) (prg_1 (gl_of C.sc m3) (C.blt _ (by simp [bltNames])) wX.pe (star_of m4)) rfl) ?_
  refine ha C tk m5 h R E Z fun v x L1 Hb1 H1 ad1 hh R1 s1 r1 => ?_
  cases q1 : den L1 x with
  | none => simp only [q1] at hh
  | some u =>
    simp only [q1] at hh
    cases u <;> first | exact hh.elim | skip
    rename_i i
    rw [(R1.read r1 q1).int]
    have q2 := hh.1
    have q3 := hh.2.1
    refine ⟨i, rfl, ⟨by omega, by omega, by omega, by omega, by omega⟩, fun q hq => ?_⟩
    refine mkL_ok hh.2.2 R1 (hk.step s1) ?_ hq
    have e : rgV 0 i = (List.range i.toNat).map fun j => V.int ((j : Nat) : Int) := by
      unfold rgV
      simp
    rw [e]
    generalize List.range i.toNat = l
    induction l with
    | nil => exact .nil
    | cons j l ih => exact .cons (.int _) ih
/-! ### tests -/
theorem st_val {a : E} (ha : SE pr n a) : ST pr n (.val a) := by
  intro me X W e env L k z Hb H ad σ Q C tk mh h R E Z hk
  have mh : (plainT e && mE pr a me e) = true := by unfold mT at mh; exact mh
  simp only [Bool.and_eq_true] at mh
  unfold wpT at h
  refine wT.by (pt_truth wX.pe (test_of mh.1)) ?_
  refine ha C tk mh.2 h R E Z fun v x L1 Hb1 H1 ad1 hh R1 s1 r1 => ?_
  cases q1 : den L1 x with
  | none => simp only [q1] at hh
  | some u =>
    simp only [q1] at hh
    obtain ⟨b, t, q⟩ := truD_ok C hh R1 (R1.read r1 q1)
    exact ⟨b, t, hk _ _ _ _ _ q R1 s1⟩
theorem st_not {a : T} (ha : ST pr n a) : ST pr n (.not a) := by
  intro me X W e env L k z Hb H ad σ Q C tk mh h R E Z hk
  cases e <;> first | exact Bool.noConfusion mh | skip
  rename_i o ea pos
  cases o <;> first | exact Bool.noConfusion mh | skip
  have mh : mT pr a me ea = true := mh
  unfold wpT at h
  exact wT.by (pt_not wT.pt) (ha C tk mh h R E Z fun b L' Hb' H' ad' hb R' s' => hk _ _ _ _ _ hb R' s')
def wW (X : Cx) (e : Expr) : TT := fun σ H Q => ∀ (whole : Sem Value) (pins : List (Addr × Obj)) (s : Shared), Inv X pins σ H s → wpAny (model X.prog X.w) X.A (isTrue e X.env whole) (TP X pins σ Q) X.xe s
/-- a test of and, or is asked without its whole -/
theorem whole_of {op : BoolOp} {es : List Expr} {pos : Pos} {X : Cx} {σ : St} {H : Hp} {Q : Bool → Hp → Prop} (h : wT X (.BoolOp op es pos) σ H Q) : wW X (.BoolOp op es pos) σ H Q := fun _ pins s I => h pins s I
theorem bool_pw {op : BoolOp} {es : List Expr} {pos : Pos} {X : Cx} : PW X (.BoolOp op es pos) (wT X (.BoolOp op es pos)) := ⟨fun wh pins s σ H Q I h => h pins s I⟩
theorem st_and {a b : T} (ha : ST pr n a) (hb : ST pr n b) : ST pr n (.and a b) := by
  intro me X W e env L k z Hb H ad σ Q C tk mh h R E Z hk
  cases e <;> first | exact Bool.noConfusion mh | skip
  rename_i o es pos
  cases o <;> first | exact Bool.noConfusion mh | skip
  unfold wpT at h
  have run : ∀ {ea : Expr} {tb : TT}, mT pr a me ea = true → (∀ L1 Hb1 H1 ad1, wpT (Gam pr n) pr.gc b env L1 k z → Rel pr.G Hb1 H1 ad1 L1 → Stp Hb H ad Hb1 H1 ad1 → tb σ H1 Q) → tAnd (wT X ea) tb σ H Q := fun {ea tb} ma kb =>
    ha C tk ma h R E Z fun c L1 Hb1 H1 ad1 hh R1 s1 => by
      cases c with
      | true => rw [if_pos rfl]; exact kb _ _ _ _ (hh.1 rfl) R1 s1
      | false => rw [if_neg Bool.false_ne_true]; exact hk _ _ _ _ _ (hh.2 rfl) R1 s1
  match es, mh with
  | [ea, eb], mh =>
    have mh : (mT pr a me ea && mT pr b me eb) = true := mh
    simp only [Bool.and_eq_true] at mh
    exact wT.by (PW.pt (pw_and wT.pt (pw_and1 wT.pt))) (run mh.1 fun L1 Hb1 H1 ad1 h1 R1 s1 => hb C tk mh.2 h1 R1 (E.step s1) (Z.step s1) (hk.step s1))
  | ea :: eb :: ec :: es, mh =>
    have mh : (mT pr a me ea && mT pr b me (.BoolOp .And (eb :: ec :: es) pos)) = true := mh
    simp only [Bool.and_eq_true] at mh
    exact wT.by (PW.pt (pw_and wT.pt bool_pw)) (run mh.1 fun L1 Hb1 H1 ad1 h1 R1 s1 => hb C tk mh.2 h1 R1 (E.step s1) (Z.step s1) (hk.step s1))
  | [], mh => exact Bool.noConfusion mh
  | [_], mh => exact Bool.noConfusion mh
theorem st_or {a b : T} (ha : ST pr n a) (hb : ST pr n b) : ST pr n (.or a b) := by
  intro me X W e env L k z Hb H ad σ Q C tk mh h R E Z hk
  cases e <;> first | exact Bool.noConfusion mh | skip
  rename_i o es pos
  cases o <;> first | exact Bool.noConfusion mh | skip
  unfold wpT at h
  have run : ∀ {ea : Expr} {tb : TT}, mT pr a me ea = true → (∀ L1 Hb1 H1 ad1, wpT (Gam pr n) pr.gc b env L1 k z → Rel pr.G Hb1 H1 ad1 L1 → Stp Hb H ad Hb1 H1 ad1 → tb σ H1 Q) → tOr (wT X ea) tb σ H Q := fun {ea tb} ma kb =>
    ha C tk ma h R E Z fun c L1 Hb1 H1 ad1 hh R1 s1 => by
      cases c with
      | true => rw [if_pos rfl]; exact hk _ _ _ _ _ (hh.1 rfl) R1 s1
      | false => rw [if_neg Bool.false_ne_true]; exact kb _ _ _ _ (hh.2 rfl) R1 s1
  match es, mh with
  | [ea, eb], mh =>
    have mh : (mT pr a me ea && mT pr b me eb) = true := mh
    simp only [Bool.and_eq_true] at mh
    exact wT.by (PW.pt (pw_or wT.pt (pw_or1 wT.pt))) (run mh.1 fun L1 Hb1 H1 ad1 h1 R1 s1 => hb C tk mh.2 h1 R1 (E.step s1) (Z.step s1) (hk.step s1))
  | ea :: eb :: ec :: es, mh =>
    have mh : (mT pr a me ea && mT pr b me (.BoolOp .Or (eb :: ec :: es) pos)) = true := mh
    simp only [Bool.and_eq_true] at mh
    exact wT.by (PW.pt (pw_or wT.pt bool_pw)) (run mh.1 fun L1 Hb1 H1 ad1 h1 R1 s1 => hb C tk mh.2 h1 R1 (E.step s1) (Z.step s1) (hk.step s1))
  | [], mh => exact Bool.noConfusion mh
  | [_], mh => exact Bool.noConfusion mh
/-! ### what a loop walks -/
def SI (pr : Pr) (n : Nat) (a : PD.It) : Prop := ∀ {me : Me} {X : Cx} {W : WX} {tg e : Expr} {env : Env} {L : Tab} {k : List D → Tab → Prop} {z : Xn → Tab → Prop} {Hb H : Hp} {ad : List Addr} {σ : St} {Q : L2.It → Hp → Prop}, Ctx pr n me X → Takes X W →
  mI pr a me tg e = true → wpI (Gam pr n) pr.gc a env L k z → Rel pr.G Hb H ad L → EnvR pr.G Hb ad env σ → ZOk pr.G z W σ Hb H ad →
  (∀ items J L' Hb' H' ad', k items L' → Rel pr.G Hb' H' ad' L' → Stp Hb H ad Hb' H' ad' → ItOk pr.G J items Hb' → Q J H') → wI X tg e σ H Q
/-- a list that is walked: frozen -/
theorem walk_lst {G : Gs} {Hb H : Hp} {ad : List Addr} {L : Tab} {v : V} {sv : SV} {ds : List D} (R : Rel G Hb H ad L) (r : RepS G Hb ad v sv) (q : den L sv = some (.lst ds)) :
    ∃ Hb' a vs, v = .ref a ∧ Rel G Hb' H ad (frzT L sv) ∧ Stp Hb H ad Hb' H ad ∧ Hb' a = some (.lst vs) ∧ RepL G Hb' vs ds := by
  obtain ⟨Hb1, R1, s1, r1⟩ := R.freeze r q
  cases r1 with
  | lst h r => exact ⟨Hb1, _, _, rfl, R1, s1, h, r⟩
section
variable {X : Cx} {tg : Expr} {pins : List (Addr × Obj)} {σ : St} {H : Hp} {s : Shared} {E : Value → Shared → Prop} {Q : L2.It → Hp → Prop} {a : Addr} {vs : List V}
/-- an iterator that is just laid -/
theorem pie_new {J : L2.It} {tn : Nat → Heap → Prop} {h' : Heap} (I : Inv X pins σ H s) (kp : ∀ b o, s.heap.get? b = some o → h'.get? b = some o) (T : Turn X.prog X.w X.K tg J [s.heap.objs.size] s.heap.objs.size tn) (t0 : tn 0 h') (q : Q J H) :
    PIE X pins σ tg Q (.ref s.heap.objs.size) { s with heap := h' } := by
  refine ⟨_, _, _, J, H, rfl, I.kept (t' := s.toks) kp, T, t0, ?_, q⟩
  intro b hb
  rw [List.mem_singleton.mp hb]
  exact I.fpOk (Nat.le_refl _) (I.hok.fresh (Nat.le_refl _))
theorem iter_list (I : Inv X pins σ H s) (h : SqL X.K H a vs) (q : Q (Itl X.K a) H) : wpAny (model X.prog X.w) X.A (pyIter (.ref a)) (PIE X pins σ tg Q) E s := by
  obtain ⟨its, _, p, _⟩ := I.list h
  exact wpAny_pyIter_list p.isList (pie_new I (fun _ _ e => Heap.get?_push_of_some _ e) (turn_list a _) ⟨_, Heap.get?_push_size _ rfl, rfl, rfl⟩ q)
theorem iter_tup (I : Inv X pins σ H s) (h : SqT X.K H a vs) (q : Q (Itt X.K a) H) : wpAny (model X.prog X.w) X.A (pyIter (.ref a)) (PIE X pins σ tg Q) E s := by
  obtain ⟨its, _, p, _⟩ := I.tuple h
  exact wpAny_pyIter_tuple (show s.heap.IsTuple a its.toArray from p) (pie_new I (fun _ _ e => Heap.get?_push_of_some _ e) (turn_tuple a _) ⟨_, Heap.get?_push_size _ rfl, rfl, rfl⟩ q)
end
section
variable {X : Cx} {tg : Expr} {pins : List (Addr × Obj)} {σ : St} {H : Hp} {s : Shared} {E : Value → Shared → Prop} {Q : L2.It → Hp → Prop} {y : Str} {t : Tok}
theorem iter_str (I : Inv X pins σ H s) (q : Q (Its y) H) : wpAny (model X.prog X.w) X.A (pyIter (.str y t)) (PIE X pins σ tg Q) E s := by
  cases ha : y.cps.all (· < 128) with
  | false => exact wpAny_pyIter_wide ha (pie_new I (fun _ _ e => Heap.get?_push_of_some _ e) (turn_str _ y t _ (.inr rfl)) ⟨_, Heap.get?_push_size _ rfl, rfl, rfl⟩ q)
  | true => exact wpAny_pyIter_ascii ha (pie_new I (fun _ _ e => Heap.get?_push_of_some _ e) (turn_str _ y t _ (.inl rfl)) ⟨_, Heap.get?_push_size _ rfl, rfl, rfl⟩ q)
end
theorem si_seq {a : E} (ha : SE pr n a) : SI pr n (.seq a) := by
  intro me X W tg e env L k z Hb H ad σ Q C tk mh h R E Z hk
  have mh : (noSet e && mE pr a me e) = true := mh
  simp only [Bool.and_eq_true] at mh
  unfold wpI at h
  refine fun pins s I => ?_
  refine L2.thn ((ha C tk mh.2 h R E Z (Q := fun v H1 => ∀ (pins : List (Addr × Obj)) (s : Shared) (u : Value), Inv X pins σ H1 s → RelV v u → wpAny (model X.prog X.w) X.A (pyIter u) (PIE X pins σ tg Q) X.xe s) fun v x L1 Hb1 H1 ad1 hh R1 s1 r1 => ?_) pins s I) fun u s1 ⟨v, H1, I1, r1, q1⟩ => q1 pins s1 u I1 r1
  cases q1 : den L1 x with
  | none => simp only [q1] at hh
  | some u =>
    simp only [q1] at hh
    cases u <;> first | exact hh.elim | skip
    case str y =>
      rw [(R1.read r1 q1).str]
      intro pins s u I ru
      obtain ⟨t, rfl⟩ := ru
      exact iter_str I (hk _ _ _ _ _ _ hh R1 s1 itOk_str)
    case lst ds =>
      obtain ⟨Hb2, a, vs, rfl, R2, s2, h2, r2⟩ := walk_lst R1 r1 q1
      intro pins s u I ru
      cases ru
      exact iter_list I (SqL.of (R2.ext _ _ h2)) (hk _ _ _ _ _ _ hh R2 (s1.trans s2) (itOk_list h2 r2))
    case tup ds =>
      obtain ⟨Hb2, R2, s2, r2⟩ := R1.freeze r1 q1
      cases r2 with
      | tup h2 r2 =>
        intro pins s u I ru
        cases ru
        exact iter_tup I (SqT.of (R2.ext _ _ h2)) (hk _ _ _ _ _ _ hh R2 (s1.trans s2) (itOk_tup h2 r2))
    case scr ns =>
      obtain ⟨Hb2, R2, s2, r2⟩ := R1.freeze r1 q1
      cases r2 with
      | scr h2 =>
        rw [← C.K] at h2
        intro pins s u I ru
        cases ru
        exact iter_list I (Same.seq R2.ext h2) (hk _ _ _ _ _ _ hh R2 (s1.trans s2) (itOk_scr h2))
theorem si_range1 {b : E} (hb : SE pr n b) : SI pr n (.range1 b) := by
  intro me X W tg e env L k z Hb H ad σ Q C tk mh h R E Z hk
  cases e <;> first | exact Bool.noConfusion mh | skip
  rename_i ef es kws pos
  cases ef <;> first | exact Bool.noConfusion mh | skip
  rename_i x p
  rcases es with _ | ⟨e1, _ | ⟨_, _⟩⟩ <;> first | exact Bool.noConfusion mh | skip
  rcases kws with _ | ⟨_, _⟩ <;> first | exact Bool.noConfusion mh | skip
  have mh : (decide (x = ("range" : Str)) && glB me.sc x && noStar e1 && mE pr b me e1) = true := mh
  simp only [Bool.and_eq_true, decide_eq_true_eq] at mh
  obtain ⟨⟨⟨rfl, m2⟩, m3⟩, m4⟩ := mh
  unfold wpI at h
  refine wI.by (pi_range1 (gl_of C.sc m2) (C.blt "range" (by simp [bltNames])) (pa_cons wX.pe pa_nil (star_of m3)) (star_of m3)) ?_
  refine hb C tk m4 h R E Z fun v x L1 Hb1 H1 ad1 hh R1 s1 r1 => ?_
  cases q : den L1 x with
  | none => simp only [q] at hh
  | some u =>
    simp only [q] at hh
    cases u <;> first | exact hh.elim | skip
    rename_i i
    rw [(R1.read r1 q).int]
    refine ⟨i, rfl, hh.1, hh.2.1, hk _ _ _ _ _ _ hh.2.2 R1 s1 ?_⟩
    have q := itOk_range (G := pr.G) (Hb1 := Hb1) (lo := 0) (m := i.toNat)
    simp only [Int.zero_add] at q
    exact q
theorem si_range2 {a b : E} (ha : SE pr n a) (hb : SE pr n b) : SI pr n (.range2 a b) := by
  intro me X W tg e env L k z Hb H ad σ Q C tk mh h R E Z hk
  cases e <;> first | exact Bool.noConfusion mh | skip
  rename_i ef es kws pos
  cases ef <;> first | exact Bool.noConfusion mh | skip
  rename_i x p
  rcases es with _ | ⟨e1, _ | ⟨e2, _ | ⟨_, _⟩⟩⟩ <;> first | exact Bool.noConfusion mh | skip
  rcases kws with _ | ⟨_, _⟩ <;> first | exact Bool.noConfusion mh | skip
  have mh : (decide (x = ("range" : Str)) && glB me.sc x && noStar e1 && noStar e2 && mE pr a me e1 && mE pr b me e2) = true := mh
  simp only [Bool.and_eq_true, decide_eq_true_eq] at mh
  obtain ⟨⟨⟨⟨⟨rfl, m2⟩, m3⟩, m3'⟩, m4⟩, m5⟩ := mh
  unfold wpI at h
  refine wI.by (pi_range2 (gl_of C.sc m2) (C.blt "range" (by simp [bltNames])) (pa_cons wX.pe (pa_cons wX.pe pa_nil (star_of m3')) (star_of m3)) (by rw [star_of m3, star_of m3']; rfl) (star_of m3')) ?_
  refine two ha hb C tk m4 m5 h R E Z fun v w x y L2 Hb2 H2 ad2 hh R2 s2 r1 r2 => ?_
  cases q1 : den L2 x with
  | none => simp only [q1] at hh
  | some u =>
    cases q2 : den L2 y with
    | none => simp only [q1, q2] at hh
    | some u' =>
      simp only [q1, q2] at hh
      cases u <;> first | exact hh.elim | skip
      cases u' <;> first | exact hh.elim | skip
      rename_i i j
      rw [(R2.read r1 q1).int, (R2.read r2 q2).int]
      exact ⟨i, j, rfl, hh.1, hk _ _ _ _ _ _ hh.2 R2 s2 itOk_range⟩
theorem si_enum {a : E} (ha : SE pr n a) : SI pr n (.enum a) := by
  intro me X W tg e env L k z Hb H ad σ Q C tk mh h R E Z hk
  cases tg <;> first | exact Bool.noConfusion mh | skip
  cases e <;> first | exact Bool.noConfusion mh | skip
  rename_i elts kk tpos ef es kws pos
  cases ef <;> first | exact Bool.noConfusion mh | skip
  rename_i x p
  rcases es with _ | ⟨e1, _ | ⟨_, _⟩⟩ <;> first | exact Bool.noConfusion mh | skip
  rcases kws with _ | ⟨_, _⟩ <;> first | exact Bool.noConfusion mh | skip
  have mh : (decide (x = ("enumerate" : Str)) && glB me.sc x && noStar e1 && mE pr a me e1) = true := mh
  simp only [Bool.and_eq_true, decide_eq_true_eq] at mh
  obtain ⟨⟨⟨rfl, m2⟩, m3⟩, m4⟩ := mh
  unfold wpI at h
  refine wI.by (pi_enum (gl_of C.sc m2) (C.blt "enumerate" (by simp [bltNames])) (pa_cons wX.pe pa_nil (star_of m3)) (star_of m3)) ?_
  refine ha C tk m4 h R E Z fun v x L1 Hb1 H1 ad1 hh R1 s1 r1 => ?_
  cases q : den L1 x with
  | none => simp only [q] at hh
  | some u =>
    simp only [q] at hh
    cases u <;> first | exact hh.elim | skip
    obtain ⟨Hb2, a, vs, rfl, R2, s2, h2, r2⟩ := walk_lst R1 r1 q
    exact ⟨a, vs, rfl, SqL.of (R2.ext _ _ h2), hk _ _ _ _ _ _ hh R2 (s1.trans s2) (itOk_enum h2 r2)⟩
theorem si_zip {a b : E} (ha : SE pr n a) (hb : SE pr n b) : SI pr n (.zip a b) := by
  intro me X W tg e env L k z Hb H ad σ Q C tk mh h R E Z hk
  cases tg <;> first | exact Bool.noConfusion mh | skip
  cases e <;> first | exact Bool.noConfusion mh | skip
  rename_i elts kk tpos ef es kws pos
  cases ef <;> first | exact Bool.noConfusion mh | skip
  rename_i x p
  rcases es with _ | ⟨e1, _ | ⟨e2, _ | ⟨_, _⟩⟩⟩ <;> first | exact Bool.noConfusion mh | skip
  rcases kws with _ | ⟨_, _⟩ <;> first | exact Bool.noConfusion mh | skip
  have mh : (decide (x = ("zip" : Str)) && glB me.sc x && noStar e1 && noStar e2 && mE pr a me e1 && mE pr b me e2) = true := mh
  simp only [Bool.and_eq_true, decide_eq_true_eq] at mh
  obtain ⟨⟨⟨⟨⟨rfl, m2⟩, m3⟩, m3'⟩, m4⟩, m5⟩ := mh
  unfold wpI at h
  refine wI.by (pi_zip (gl_of C.sc m2) (C.blt "zip" (by simp [bltNames])) (pa_cons wX.pe (pa_cons wX.pe pa_nil (star_of m3')) (star_of m3)) (star_of m3) (by rw [star_of m3']; rfl)) ?_
  refine two ha hb C tk m4 m5 h R E Z fun v w x y L2 Hb2 H2 ad2 hh R2 s2 r1 r2 => ?_
  cases q1 : den L2 x with
  | none => simp only [q1] at hh
  | some u =>
    cases q2 : den L2 y with
    | none => simp only [q1, q2] at hh
    | some u' =>
      simp only [q1, q2] at hh
      cases u <;> first | exact hh.elim | skip
      cases u' <;> first | exact hh.elim | skip
      rename_i ds es
      obtain ⟨Hb3, a, vs, rfl, R3, s3, h3, r3⟩ := walk_lst R2 r1 q1
      obtain ⟨Hb4, b, ws, rfl, R4, s4, h4, r4⟩ := walk_lst R3 (r2.step s3) (by rw [den_frzT]; exact q2)
      exact ⟨a, b, vs, ws, rfl, SqL.of (R4.ext _ _ (s4.base _ _ h3)), SqL.of (R4.ext _ _ h4), hk _ _ _ _ _ _ hh R4 ((s2.trans s3).trans s4) (itOk_zip (s4.base _ _ h3) h4 (r3.mono s4.base) r4)⟩
theorem si_rev {a : E} (ha : SE pr n a) : SI pr n (.reversed a) := by
  intro me X W tg e env L k z Hb H ad σ Q C tk mh h R E Z hk
  cases e <;> first | exact Bool.noConfusion mh | skip
  rename_i ef es kws pos
  cases ef <;> first | exact Bool.noConfusion mh | skip
  rename_i x p
  rcases es with _ | ⟨e1, _ | ⟨_, _⟩⟩ <;> first | exact Bool.noConfusion mh | skip
  rcases kws with _ | ⟨_, _⟩ <;> first | exact Bool.noConfusion mh | skip
  have mh : (decide (x = ("reversed" : Str)) && glB me.sc x && noStar e1 && mE pr a me e1) = true := mh
  simp only [Bool.and_eq_true, decide_eq_true_eq] at mh
  obtain ⟨⟨⟨rfl, m2⟩, m3⟩, m4⟩ := mh
  unfold wpI at h
  refine wI.by (pi_reversed (gl_of C.sc m2) (C.blt "reversed" (by simp [bltNames])) (pa_cons wX.pe pa_nil (star_of m3)) (star_of m3)) ?_
  refine ha C tk m4 h R E Z fun v x L1 Hb1 H1 ad1 hh R1 s1 r1 => ?_
  cases q : den L1 x with
  | none => simp only [q] at hh
  | some u =>
    simp only [q] at hh
    cases u <;> first | exact hh.elim | skip
    obtain ⟨Hb2, a, vs, rfl, R2, s2, h2, r2⟩ := walk_lst R1 r1 q
    exact ⟨a, vs, rfl, SqL.of (R2.ext _ _ h2), hk _ _ _ _ _ _ hh R2 (s1.trans s2) (itOk_rev h2 r2)⟩
end
end PD

namespace PD
open PySem L2
section
variable {G : Gs} {Hb Hb0 H H0 : Hp} {ad : List Addr} {L : Tab}
/-- an object that stands apart comes to the base -/
theorem Rel.addF {o : HO} {p : Addr} (R : Rel G Hb H ad L) (hb : Hb p = none) (hp : p ∉ ad) (h : H p = some o) : Rel G (upd Hb p o) H ad L := by
  have sm : Same Hb (upd Hb p o) := fun b w q => by rw [upd_ne (ne_of_none q hb)]; exact q
  refine ⟨fun b w q => ?_, R.len, R.nd, fun i es b hi hbb hv => ?_, R.ina, fun i x b hi hbb => (R.fz i x b hi hbb).mono sm⟩
  · by_cases e : b = p
    · subst e; rw [upd_same] at q; cases q; exact h
    · rw [upd_ne e] at q; exact R.ext b w q
  · obtain ⟨k0, ws, k1, k2⟩ := R.own i es b hi hbb hv
    have e : b ≠ p := fun z => hp (z ▸ List.mem_of_getElem? hbb)
    exact ⟨by rw [upd_ne e]; exact k0, ws, k1, k2.mono sm⟩
theorem Stp.addF {o : HO} {p : Addr} {ad' : List Addr} (s : Stp Hb0 H0 ad Hb H ad') (hb : Hb p = none) (h0 : H0 p = none) : Stp Hb0 H0 ad (upd Hb p o) H ad' :=
  ⟨s.base.trans fun b w q => by rw [upd_ne (ne_of_none q hb)]; exact q, s.new, s.keep, fun b h1 h2 => by
    by_cases e : b = p
    · subst e; exact .inl h0
    · rw [upd_ne e] at h2; exact s.bas b h1 h2, s.there⟩
/-- .. or becomes an own list -/
theorem Rel.addO {p : Addr} {vs : List V} {ds : List D} (R : Rel G Hb H ad L) (hb : Hb p = none) (hp : p ∉ ad) (h : H p = some (.lst vs)) (r : RepL G Hb vs ds) : Rel G Hb H (ad ++ [p]) (L ++ [.lst ds]) := by
  have old : ∀ {i : Nat} {b : Addr}, i < L.length → (ad ++ [p])[i]? = some b → ad[i]? = some b := fun {i b} hi h => by
    rw [List.getElem?_append_left (by rw [R.len]; exact hi)] at h; exact h
  have at_ : ∀ {i : Nat} {c : Ct}, ¬ i < L.length → (L ++ [.lst ds])[i]? = some c → i = L.length ∧ c = .lst ds := fun {i c} hl hi => by
    obtain ⟨h1, _⟩ := List.getElem?_eq_some_iff.mp hi
    have hi' : i = L.length := by simp at h1; omega
    subst hi'
    rw [List.getElem?_append_right (Nat.le_refl _)] at hi
    simp at hi
    exact ⟨rfl, hi.symm⟩
  refine ⟨R.ext, by simp [R.len], List.nodup_append.mpr ⟨R.nd, by simp, fun a ha b hb z => by simp at hb; subst hb; subst z; exact hp ha⟩, fun i es b hi hbb hv => ?_, fun b hbb => ?_, fun i x b hi hbb => ?_⟩
  · by_cases hl : i < L.length
    · rw [List.getElem?_append_left hl] at hi
      exact R.own i es b hi (old hl hbb) hv
    · obtain ⟨rfl, e⟩ := at_ hl hi
      cases e
      rw [← R.len, List.getElem?_append_right (Nat.le_refl _)] at hbb
      simp at hbb
      subst hbb
      exact ⟨hb, .lst vs, h, r⟩
  · rcases List.mem_append.mp hbb with q | q
    · exact R.ina b q
    · simp at q; subst q; rw [h]; simp
  · by_cases hl : i < L.length
    · rw [List.getElem?_append_left hl] at hi
      exact R.fz i x b hi (old hl hbb)
    · obtain ⟨_, e⟩ := at_ hl hi
      cases e
theorem Stp.addO {p : Addr} (s : Stp Hb0 H0 ad Hb H ad) (h0 : H0 p = none) : Stp Hb0 H0 ad Hb H (ad ++ [p]) :=
  ⟨s.base, ⟨[p], rfl, fun a ha => by simp at ha; subst ha; exact h0⟩, s.keep, s.bas, s.there⟩
theorem mk_at {m : Bool} {ds : List D} {k : KV} {Q : VK} {p : Addr} {vs : List V} (h : mkL m ds L k) (R : Rel G Hb H ad L) (hk : KOk G k Q Hb0 H0 ad) (s : Stp Hb0 H0 ad Hb H ad) (h0 : H0 p = none) (hb : Hb p = none) (hp : p ∉ ad) (e : H p = some (.lst vs))
    (r : RepL G Hb vs ds) : Q (.ref p) H := by
  cases m with
  | true =>
    exact hk _ (.c L.length) _ _ _ _ h (R.addO hb hp e r) (s.addO h0) ⟨p, by rw [← R.len]; simp, rfl⟩
  | false =>
    have sm : Same Hb (upd Hb p (.lst vs)) := fun b w q => by rw [upd_ne (ne_of_none q hb)]; exact q
    exact hk _ (.d (.lst ds)) _ _ _ _ h (R.addF hb hp e) (s.addF hb h0) (.lst upd_same (r.mono sm))
/-- another object than the known ones is written -/
theorem Rel.other {p : Addr} {o : HO} (R : Rel G Hb H ad L) (hb : Hb p = none) (hp : p ∉ ad) : Rel G Hb (upd H p o) ad L := by
  refine ⟨fun b w q => by rw [upd_ne (ne_of_none q hb)]; exact R.ext b w q, R.len, R.nd, fun i es b hi hbb hv => ?_, fun b hbb => ?_, R.fz⟩
  · obtain ⟨k0, ws, k1, k2⟩ := R.own i es b hi hbb hv
    have e : b ≠ p := fun z => hp (z ▸ List.mem_of_getElem? hbb)
    exact ⟨k0, ws, by rw [upd_ne e]; exact k1, k2⟩
  · have e : b ≠ p := fun z => hp (z ▸ hbb)
    rw [upd_ne e]; exact R.ina b hbb
theorem Stp.other {p : Addr} {o : HO} {ad' : List Addr} (s : Stp Hb0 H0 ad Hb H ad') (h0 : H0 p = none) : Stp Hb0 H0 ad Hb (upd H p o) ad' :=
  ⟨s.base, s.new, fun b w q n => by rw [upd_ne (ne_of_none q h0)]; exact s.keep b w q n, s.bas, fun b q => by
    by_cases e : b = p
    · subst e; exact h0
    · rw [upd_ne e] at q; exact s.there b q⟩
theorem Stp.apart {p : Addr} {o : HO} {Hb1 H1 : Hp} {ad1 : List Addr} (s : Stp Hb H ad Hb1 H1 ad1) (hb : Hb p = none) (hp : p ∉ ad) (h : H p = some o) : Hb1 p = none ∧ H1 p = some o := by
  refine ⟨?_, s.keep p o h hp⟩
  cases q : Hb1 p with
  | none => rfl
  | some w =>
    rcases s.bas p hb (by rw [q]; simp) with z | z
    · rw [h] at z; cases z
    · exact absurd z hp
end
section
variable {pr : Pr} {n : Nat}
theorem se_rev {a : E} (ha : SE pr n a) : SE pr n (.rev a) := by
  intro me X W e m env L k z Hb H ad σ Q C tk mh h R E Z hk
  cases e <;> first | exact Bool.noConfusion mh | skip
  rename_i ea es pos
  cases es <;> first | exact Bool.noConfusion mh | skip
  rename_i l u st pos2
  cases l <;> first | exact Bool.noConfusion mh | skip
  cases u <;> first | exact Bool.noConfusion mh | skip
  cases st <;> first | exact Bool.noConfusion mh | skip
  rename_i st
  cases st <;> first | exact Bool.noConfusion mh | skip
  rename_i o one pos3
  cases o <;> first | exact Bool.noConfusion mh | skip
  cases one <;> first | exact Bool.noConfusion mh | skip
  rename_i c k1 p1
  cases c <;> first | exact Bool.noConfusion mh | skip
  rename_i i
  have mh : (i == 1 && mE pr a me ea) = true := mh
  simp only [Bool.and_eq_true, beq_iff_eq] at mh
  obtain ⟨rfl, mh⟩ := mh
  unfold wpE at h
  refine wX.by (pe_revL wX.pe) ?_
  refine ha C tk mh h R E Z fun v x L1 Hb1 H1 ad1 hh R1 s1 r1 => ?_
  cases q1 : den L1 x with
  | none => simp only [q1] at hh
  | some u =>
    simp only [q1] at hh
    cases u <;> first | exact hh.elim | skip
    obtain ⟨a, vs, rfl, h3, r2⟩ := (R1.read r1 q1).lst R1.ext
    exact ⟨a, vs, rfl, SqL.of h3, fun p hp => mkL_ok hh R1 (hk.step s1) r2.reverse hp⟩
/-! ### comprehensions -/
def wG (X : Cx) (tg : Expr) : TG := fun v σ H Q => ∀ (pins : List (Addr × Obj)) (s : Shared) (u : Value), Inv X pins σ H s → RelV v u →
    wpAny (model X.prog X.w) X.A (assign tg X.env u) (fun _ s' => ∃ σ' H', Inv X pins σ' H' s' ∧ Q σ' H') X.xe s
def wTs (X : Cx) (ifs : List Expr) : TT := fun σ H Q => ∀ (pins : List (Addr × Obj)) (s : Shared), Inv X pins σ H s →
    wpAny (model X.prog X.w) X.A (forIn ifs true fun c r => if r = true then do let ok ← isTrue c X.env (eval c X.env); pure (ForInStep.yield ok) else pure (ForInStep.yield r)) (TP X pins σ Q) X.xe s
theorem wTs.by {X : Cx} {ifs : List Expr} {t : TT} {σ : St} {H : Hp} {Q : Bool → Hp → Prop} (p : PTs X ifs t) (h : t σ H Q) : wTs X ifs σ H Q := fun pins s I => p.run pins s σ H Q I h
/-- over all blocks of a comprehension -/
abbrev AllB (X : Cx) (scope : Scope) (P : Cx → Prop) : Prop := ∀ (s : Shared) (H : Hp) (Ce : Addr) (cl : List (Str × Addr)) (fp : List Addr), P (X.blk s H scope (compEnvC scope cl Ce X.env) fp)
theorem stc_ok {cs : Ts} (hs : ∀ c, cs = .cons c .nil → ST pr n c) {me : Me} {X : Cx} {ifs : List Expr} {env : Env} {L : Tab} {k : Bool → Prop} {Hb H : Hp} {ad : List Addr} {σ : St} {Q : Bool → Hp → Prop} (C : Ctx pr n me X)
    (mh : mTs pr cs me ifs = true) (h : wpC (Gam pr n) pr.gc cs env L k) (R : Rel pr.G Hb H ad L) (E : EnvR pr.G Hb ad env σ)
    (hk : ∀ b Hb' H', k b → Rel pr.G Hb' H' ad L → Stp Hb H ad Hb' H' ad → Q b H') : wTs X ifs σ H Q := by
  cases cs with
  | nil =>
    cases ifs with
    | cons _ _ => exact Bool.noConfusion mh
    | nil =>
      unfold wpC at h
      exact wTs.by pts_nil (hk true Hb H h R Stp.refl)
  | cons c cs =>
    cases cs with
    | cons _ _ => unfold wpC at h; exact h.elim
    | nil =>
      rcases ifs with _ | ⟨e, _ | ⟨_, _⟩⟩
      · exact Bool.noConfusion mh
      · have mh : (mT pr c me e && mTs pr .nil me []) = true := mh
        simp only [Bool.and_eq_true] at mh
        unfold wpC at h
        refine wTs.by (pts_one wT.pt) ?_
        refine hs c rfl C takes0 mh.1 h R E (fun _ _ _ _ _ _ _ f => f.elim) fun b L1 Hb1 H1 ad1 hh R1 s1 => ?_
        obtain ⟨⟨ex, rfl⟩, hb⟩ := hh
        obtain ⟨ns, rfl, _⟩ := s1.new
        exact hk b Hb1 H1 hb (R1.trunc R.len) s1.trunc
      · have mh : (mT pr c me e && mTs pr .nil me _) = true := mh
        simp only [Bool.and_eq_true] at mh
        exact Bool.noConfusion mh.2
/-- the form of a comprehension -/
theorem comp_form {tg : Tg} {it : PD.It} {elt : E} {cs : Ts} {me : Me} {ee : Expr} {gens : List Comprehension} {scope : Scope} {pos : Pos} (mh : mE pr (.comp tg it elt cs) me (.ListComp ee gens scope pos) = true) :
    ∃ et ei ifs, gens = [⟨et, ei, ifs, 0⟩] ∧ blkC me.N me.sc scope (ownOf me.N (tgSlots tg)) = true ∧ (ownOf me.N (tgSlots tg)).map (·.2) = tgSlots tg ∧ mTg (blkMe me scope) tg et = true ∧ mI pr it me et ei = true ∧ mE pr elt (blkMe me scope) ee = true ∧ mTs pr cs (blkMe me scope) ifs = true := by
  match gens, mh with
  | [], mh => exact Bool.noConfusion mh
  | [⟨et, ei, ifs, asy⟩], mh =>
    have mh : (asy == 0 && blkC me.N me.sc scope (ownOf me.N (tgSlots tg)) && decide ((ownOf me.N (tgSlots tg)).map (·.2) = tgSlots tg) &&
      mTg (blkMe me scope) tg et && mI pr it me et ei && mE pr elt (blkMe me scope) ee && mTs pr cs (blkMe me scope) ifs) = true := mh
    simp only [Bool.and_eq_true, decide_eq_true_eq, beq_iff_eq] at mh
    obtain ⟨⟨⟨⟨⟨⟨rfl, m1⟩, m2⟩, m3⟩, m4⟩, m5⟩, m6⟩ := mh
    exact ⟨et, ei, ifs, rfl, m1, m2, m3, m4, m5, m6⟩
  | ⟨_, _, _, _⟩ :: _ :: _, mh => exact Bool.noConfusion mh
theorem fold_mI {it : PD.It} {me : Me} {tg e : Expr} (h : mI pr it me tg e = true) {env : PySem.Env} : ∀ x, foldedSetIterable e env x = pure x := by
  cases it with
  | seq a =>
    have h : (noSet e && mE pr a me e) = true := h
    simp only [Bool.and_eq_true] at h
    exact fold_of h.1
  | range1 b => cases e <;> first | exact Bool.noConfusion h | (intro x; rfl)
  | range2 a b => cases e <;> first | exact Bool.noConfusion h | (intro x; rfl)
  | enum a => cases tg <;> first | exact Bool.noConfusion h | (cases e <;> first | exact Bool.noConfusion h | (intro x; rfl))
  | zip a b => cases tg <;> first | exact Bool.noConfusion h | (cases e <;> first | exact Bool.noConfusion h | (intro x; rfl))
  | reversed a => cases e <;> first | exact Bool.noConfusion h | (intro x; rfl)
/-- the parts of a comprehension, over all its blocks -/
abbrev gAll (X : Cx) (scope : Scope) (et : Expr) : TG := fun v σ H Q => AllB X scope fun Y => wG Y et v σ H Q
abbrev ttAll (X : Cx) (scope : Scope) (ifs : List Expr) : TT := fun σ H Q => AllB X scope fun Y => wTs Y ifs σ H Q
abbrev teAll (X : Cx) (scope : Scope) (ee : Expr) : TE := fun σ H Q => AllB X scope fun Y => wX Y ee σ H Q
theorem comp_run {tg : Tg} {it : PD.It} {elt : E} {cs : Ts} (hi : SI pr n it) (he : SE pr n elt) (hs : ∀ c, cs = .cons c .nil → ST pr n c) {me : Me} {X : Cx} {W : WX} {et ei ee : Expr} {ifs : List Expr} {scope : Scope} {m : Bool} {env : Env} {L : Tab} {k : KV}
    {z : Xn → Tab → Prop} {Hb H : Hp} {ad : List Addr} {σ : St} {Q : VK} (C : Ctx pr n me X) (tk : Takes X W) (m3 : mTg (blkMe me scope) tg et = true) (m4 : mI pr it me et ei = true) (m5 : mE pr elt (blkMe me scope) ee = true) (m6 : mTs pr cs (blkMe me scope) ifs = true)
    (h : wpE (Gam pr n) pr.gc (.comp tg it elt cs) m env L k z) (R : Rel pr.G Hb H ad L) (E : EnvR pr.G Hb ad env σ) (Z : ZOk pr.G z W σ Hb H ad) (hk : KOk pr.G k Q Hb H ad) :
    tLc (wI X et ei) (gAll X scope et) (ttAll X scope ifs) (teAll X scope ee) (tgSlots tg) σ H Q := by
  unfold wpE at h
  refine hi C tk m4 h R E Z fun items J L1 Hb1 H1 ad1 hh R1 s1 io => ?_
  obtain ⟨I, i0, turn, fin⟩ := hh
  intro D hD
  have hbD : Hb1 D = none := by
    cases q : Hb1 D with
    | none => rfl
    | some o => rw [R1.ext D o q] at hD; cases hD
  have nD : D ∉ ad1 := fun z => R1.ina D z hD
  -- what holds at turn i
  let P : Nat → Nat → Hp → Prop := fun i mm Hx => mm = items.length - i ∧ i ≤ items.length ∧ ∃ acc vs Hbx, I i acc ∧ Rel pr.G Hbx Hx ad1 L1 ∧ Stp Hb1 H1 ad1 Hbx Hx ad1 ∧ Hbx D = none ∧ Hx D = some (.lst vs) ∧ RepL pr.G Hbx vs acc
  refine ⟨P, ⟨items.length, by simp, Nat.zero_le _, [], [], Hb1, i0, R1.other hbD nD, Stp.refl.other hD, hbD, upd_same, .nil⟩, ?_⟩
  rintro i mm Hx ⟨rfl, hi, acc, vs, Hbx, ii, Rx, sx, hx0, hxD, rx⟩
  by_cases hlt : i < items.length
  · refine .inr ⟨io.go i Hx (sx.base.trans Rx.ext) hlt, fun H' => P (i + 1) (items.length - (i + 1)) H', fun H' p => ⟨_, by omega, p⟩, fun x H' y => ?_⟩
    obtain ⟨d, Hb2, hd, R2, s2, r2⟩ := io.yld i Hx Hbx ad1 L1 x H' sx.base Rx y hlt
    have t := turn i d acc hd ii
    intro sb Hblk Ce cl fp
    have CB := C.blk sb Hblk scope Ce cl fp
    obtain ⟨tt, pg, run⟩ := tg_ok (pr := pr) (n := n) CB.N CB.nd CB.sc CB.fb CB.calm m3
    have EW := ((E.step s1).step sx).step s2 |>.wipe (tgSlots tg)
    refine fun pins s u Iv rv => pg.run pins s (L2.wipe σ (tgSlots tg)) H' x u _ Iv rv ?_
    refine run d x pr.G Hb2 ad1 (wipeE env (tgSlots tg)) (L2.wipe σ (tgSlots tg)) H' _ _ t R2.ext r2 EW fun env2 σ2 hc E2 l2 w2 => ?_
    refine ⟨?_, ?_⟩
    · rw [wipe_eq l2 w2]
      apply List.ext_getElem?
      intro j
      rw [wipe_get, wipe_get, wipe_len]
      by_cases hj : j ∈ tgSlots tg <;> simp [hj]
    · intro sb2 Hblk2 Ce2 cl2 fp2
      have CB2 := C.blk sb2 Hblk2 scope Ce2 cl2 fp2
      refine stc_ok hs CB2 m6 hc R2 E2 fun b Hb3 H3 hb R3 s3 => ?_
      obtain ⟨a3, b3⟩ := (s2.trans s3).apart hx0 nD hxD
      have sx3 := sx.trans (s2.trans s3)
      cases b with
      | false =>
        rw [if_neg Bool.false_ne_true]
        exact ⟨rfl, hlt, acc, vs, Hb3, hb.2 rfl, R3, sx3, a3, b3, rx.mono (s2.trans s3).base⟩
      | true =>
        rw [if_pos rfl]
        intro sb3 Hblk3 Ce3 cl3 fp3
        have CB3 := C.blk sb3 Hblk3 scope Ce3 cl3 fp3
        refine he CB3 takes0 m5 (hb.1 rfl) R3 (E2.step s3) (fun _ _ _ _ _ _ _ f => f.elim) fun v sv L4 Hb4 H4 ad4 h4 R4 s4 r4 => ?_
        obtain ⟨d4, ex, rfl, q4, fresh, sz, i4⟩ := h4
        obtain ⟨ns, rfl, hns⟩ := s4.new
        obtain ⟨Hb5, R5, s5, r5⟩ := R4.freeze r4 q4
        obtain ⟨a4, b4⟩ := s4.apart a3 nD b3
        have a5 : Hb5 D = none := by
          cases q : Hb5 D with
          | none => rfl
          | some w =>
            rcases s5.bas D a4 (by rw [q]; simp) with z | z
            · rw [b4] at z; cases z
            · rcases List.mem_append.mp z with z | z
              · exact absurd z nD
              · rw [hns D z] at b3; cases b3
        have len5 : L1.length = ad1.length := R1.len.symm
        -- the table ahead of the element is as it was
        have R6 : Rel pr.G Hb5 H4 ad1 L1 := by
          have e : ∃ ex', frzT (L1 ++ ex) sv = L1 ++ ex' := by
            cases sv with
            | d x => exact ⟨ex, rfl⟩
            | c j =>
              have hj := fresh j rfl
              cases q : (L1 ++ ex)[j]? with
              | none => rw [frzT_no q]; exact ⟨ex, rfl⟩
              | some ct =>
                cases ct with
                | fz x => rw [frzT_fz q]; exact ⟨ex, rfl⟩
                | lst ds =>
                  rw [frzT_lst q, List.set_append_right _ _ hj]
                  exact ⟨_, rfl⟩
                | ob u =>
                  rw [frzT_ob q, List.set_append_right _ _ hj]
                  exact ⟨_, rfl⟩
          obtain ⟨ex', e⟩ := e
          rw [e] at R5
          exact R5.trunc R1.len
        have s6 : Stp Hb3 H3 ad1 Hb5 H4 ad1 := (s4.trans s5).trunc
        have rx5 := (rx.mono (s2.trans s3).base).mono s6.base
        have sx6 := sx3.trans s6
        refine ⟨vs, b4, by rw [rx.length]; exact sz, rfl, hlt, _, _, Hb5, i4, R6.other a5 nD, sx6.other hD, a5, upd_same, rx5.append (.cons r5 .nil)⟩
  · have e : i = items.length := by omega
    subst e
    exact .inl ⟨io.stop _ Hx (sx.base.trans Rx.ext) (Nat.le_refl _), mk_at (fin acc ii) Rx (hk.step s1) sx hD hx0 nD hxD rx⟩
theorem se_comp (tg : Tg) {it : PD.It} {elt : E} {cs : Ts} (hi : SI pr n it) (he : SE pr n elt) (hs : ∀ c, cs = .cons c .nil → ST pr n c) : SE pr n (.comp tg it elt cs) := by
  intro me X W e m env L k z Hb H ad σ Q C tk mh h R E Z hk
  cases e <;> first | exact Bool.noConfusion mh | skip
  rename_i ee gens scope pos
  obtain ⟨et, ei, ifs, rfl, m1, m2, m3, m4, m5, m6⟩ := comp_form mh
  have bo : BlkOk X.N X.env.scope scope (ownOf me.N (tgSlots tg)) := by rw [C.N, C.sc]; exact blkOk_by m1
  refine wX.by (pe_lc (wi := wI X et ei) (g := gAll X scope et) (tt := ttAll X scope ifs) (te := teAll X scope ee) C.calm C.nd wI.pi bo
    (fun s H Ce cl fp => ⟨fun pins s' σ H' v u Q I r hh => hh s H Ce cl fp pins s' u I r⟩)
    (fun s H Ce cl fp => ⟨fun pins s' σ H' Q I hh => hh s H Ce cl fp pins s' I⟩)
    (fun s H Ce cl fp => ⟨fun pins s' σ H' Q I hh => hh s H Ce cl fp pins s' I⟩) (fold_mI m4)) ?_
  rw [m2]
  exact comp_run hi he hs C tk m3 m4 m5 m6 h R E Z hk
theorem se_edict : SE pr n .edict := by
  intro me X W e m env L k z Hb H ad σ Q C tk mh h R E Z hk
  cases e <;> first | exact Bool.noConfusion mh | skip
  rename_i ks vs pos
  rcases ks with _ | ⟨_, _⟩ <;> first | exact Bool.noConfusion mh | skip
  rcases vs with _ | ⟨_, _⟩ <;> first | exact Bool.noConfusion mh | skip
  unfold wpE at h
  refine wX.by pe_dnewK fun p hp => ?_
  cases m with
  | true =>
    obtain ⟨R1, s1, r1⟩ := R.newO (oo := .dK []) (ct := .ob (.kst [])) hp rfl
    exact hk _ _ _ _ _ _ h R1 s1 r1
  | false =>
    obtain ⟨R1, s1⟩ := R.newF (o := .dK []) hp
    exact hk _ (.d (.dct [])) _ _ _ _ h R1 s1 (.dct upd_same)
/-- {e: f}, e a tuple of ints and texts -/
def tDispT (tk tv : TE) : TE := fun σ H Q => ∀ p, H p = none → tk σ (upd H p (.dT [])) fun x H1 => tv σ H1 fun y H2 => ∃ (k : List Key) (b : Addr), x = .ref b ∧ H2 p = some (.dT []) ∧ H2 b = some (.tup (k.map L2.kV)) ∧ Q (.ref p) (upd H2 p (.dT (putK [] k y)))
theorem pe_dispT {X : Cx} {pos : Pos} {ek ev : Expr} {tk tv : TE} (hu : X.A.units < cLine) (hk : PE X ek tk) (hv : PE X ev tv) : PE X (.Dict [some ek] [ev] pos) (tDispT tk tv) := by
  refine ⟨fun pins s σ H Q I q => ?_⟩
  have hn := I.hok.fresh (Nat.le_refl s.heap.objs.size)
  have I1 := I.laid (a := s.heap.objs.size) (o := .dT []) (h' := s.heap.push { cls := .type "dict", data := .dict #[] }) (t' := s.toks) (fun _ _ q => Heap.get?_push_of_some _ q) (Nat.le_refl _) (dt_empty s.heap I.big)
  have hs := zip_pairTrees [some ek] [ev] X.env pos rfl rfl
  have hl := pairTrees_length [some ek] [ev] X.env pos rfl rfl
  have hl1 : (pairTrees [some ek] [ev] X.env pos).length = 1 := hl
  rw [arm_eval_Dict, hs, dictDisplay_pairs _ (fun z => by rw [z] at hl1; cases hl1) (by omega)]
  refine wpAny_bind (wpAny_standAt (wpAny_bind ?_))
  unfold subDict
  refine wpAny_bind (wpAny_alloc ?_)
  refine wpAny_bind (wpAny_holding ?_)
  rw [if_pos (by omega)]
  refine wpAny_bind (thn (t := evalPairs (pairTrees [some ek] [ev] X.env pos)) (Q := fun vs s' => ∃ x y u w H2, vs = [(u, w)] ∧ Inv X pins σ H2 s' ∧ RelV x u ∧ RelV y w ∧ ∃ (k : List Key) (b : Addr), x = .ref b ∧ H2 s.heap.objs.size = some (.dT []) ∧ H2 b = some (.tup (k.map L2.kV)) ∧ Q (.ref s.heap.objs.size) (upd H2 s.heap.objs.size (.dT (putK [] k y)))) ?_ fun vs s2 h2 => ?_)
  · refine pairTrees_cons_walk (thn (hk.run pins _ σ _ _ I1 (q _ hn)) fun u s1 ⟨x, H1, I1', rx, q1⟩ => thn (hv.run pins s1 σ H1 _ I1' q1) fun w s2 ⟨y, H2, I2, ry, q2⟩ => pairTrees_nil_walk ⟨x, y, u, w, H2, rfl, I2, rx, ry, q2⟩)
  · obtain ⟨x, y, u, w, H2, rfl, I2, rx, ry, k, b, rfl, e, eb, q3⟩ := h2
    cases (show u = Value.ref b from rx)
    refine wpAny_holding ?_
    refine wpAny_bind ?_
    rw [List.forIn_cons]
    obtain ⟨z, hd, xs, rel, dd⟩ := dt_of I2.hok e
    have hz : xs.length ≤ sizeLine := by rw [← Paired.length rel]; exact z
    cases rel
    refine wpAny_bind (wpAny_bind (wpAny_dictSet_heap (hsz := hz) (knd := tupleKind (mixKind X.prog X.w)) hu (key_of I2.hok eb) dd fun h' dd' hs' => wpAny_pure ?_))
    simp only [List.forIn_nil]
    refine wpAny_pure (wpAny_pure (wpAny_pure (wpAny_pure ⟨.ref s.heap.objs.size, _, ?_, rfl, q3⟩)))
    obtain ⟨q, es, ep, hq, h2, h3, h4, _, h5⟩ := dd'
    have hl2 : (putK ([] : List (List Key × V)) k y).length ≤ sizeLine := by show 1 ≤ sizeLine; rw [sizeLine_eq]; decide
    refine d_write I2 (by rw [e]; exact True.intro) hs' ⟨q, hq⟩ ⟨hl2, hd, _, (KT.put (show KT H2 [] [] from .nil) k eb ry).keeps fun c ys ec => ?_, q, es, ep, hq, h2, h3, h4, h5⟩
    rw [upd_ne (ne_of ec e (fun z => nomatch z))]
    exact ec
theorem keys_of {G : Gs} {Hb : Hp} : ∀ {vs : List V} {ds : List PD.D}, RepL G Hb vs ds → ds.all D.key = true → ∃ k : List Key, vs = k.map L2.kV
  | _, _, .nil, _ => ⟨[], rfl⟩
  | _, _, .cons r t, h => by
    rw [List.all_cons, Bool.and_eq_true] at h
    obtain ⟨k, rfl⟩ := keys_of t h.2
    cases r <;> first | exact Bool.noConfusion h.1 | skip
    · exact ⟨.inl _ :: k, rfl⟩
    · exact ⟨.inr _ :: k, rfl⟩
theorem se_tdict {a b : E} (ha : SE pr n a) (hb : SE pr n b) : SE pr n (.tdict a b) := by
  intro me X W e m env L k z Hb H ad σ Q C tk mh h R E Z hk
  cases e <;> first | exact Bool.noConfusion mh | skip
  rename_i ks vs pos
  rcases ks with _ | ⟨ok, _ | ⟨_, _⟩⟩ <;> first | exact Bool.noConfusion mh | skip
  all_goals rcases vs with _ | ⟨ev, _ | ⟨_, _⟩⟩ <;> first | exact Bool.noConfusion mh | (cases ok <;> exact Bool.noConfusion mh) | skip
  cases ok with
  | none => exact Bool.noConfusion mh
  | some ek =>
  have mh : (mE pr a me ek && mE pr b me ev) = true := mh
  simp only [Bool.and_eq_true] at mh
  unfold wpE at h
  refine wX.by (pe_dispT (by have := C.room.un; omega) wX.pe wX.pe) fun p hp => ?_
  have hbp : Hb p = none := by
    cases q : Hb p with
    | none => rfl
    | some o => rw [R.ext p o q] at hp; cases hp
  have np : p ∉ ad := fun z => R.ina p z hp
  have s0 : Stp Hb H ad Hb (upd H p (.dT [])) ad := Stp.refl.other hp
  refine ha C tk mh.1 h (R.other hbp np) E (Z.step s0) fun v x L1 Hb1 H1 ad1 hh R1 s1 r1 => ?_
  refine hb C tk mh.2 hh R1 (E.step s1) ((Z.step s0).step s1) fun w y L2 Hb2 H2 ad2 h2 R2 s2 r2 => ?_
  cases x <;> first | exact h2.elim | skip
  rename_i x
  cases x <;> first | exact h2.elim | skip
  rename_i ds
  cases (show Rep pr.G Hb1 v (.tup ds) from r1) with
  | tup g1 g2 =>
    obtain ⟨kk, rfl⟩ := keys_of g2 h2.1
    obtain ⟨hb2, hH2⟩ := (s1.trans s2).apart hbp np upd_same
    have np2 : p ∉ ad2 := fun z => by
      obtain ⟨ns, e, f⟩ := (s1.trans s2).new
      rw [e] at z
      rcases List.mem_append.mp z with z | z
      · exact np z
      · have := f p z
        rw [upd_same] at this; cases this
    refine ⟨kk, _, rfl, hH2, R2.ext _ _ (s2.base _ _ g1), ?_⟩
    exact hk _ (.d (.dct [(.tup ds, .non)])) _ _ _ _ h2.2 ((R2.other hb2 np2).addF hb2 np2 upd_same) ((((s0.trans s1).trans s2).other hp).addF hb2 hp) (.dctT upd_same)
def mW (X : Cx) (id : String) : V → List V → Hp → VK → Prop := fun x xs H Q => ∀ (pins : List (Addr × Obj)) (s : Shared) (σ : St) (v : Value) (us : List Value), Inv X pins σ H s → RelV x v → Vals xs us → wpAny (model X.prog X.w) X.A (call (.builtin id) (v :: us)) (EP X pins σ Q) X.xe s
theorem mW.m {X : Cx} {id : String} : MtR X id (mW X id) := fun pins s σ H x xs v us Q I r rs h => h pins s σ v us I r rs
theorem mW.by {X : Cx} {id : String} {r : V → List V → Hp → VK → Prop} {x : V} {xs : List V} {H : Hp} {Q : VK} (p : MtR X id r) (h : r x xs H Q) : mW X id x xs H Q := fun pins s σ v us I r1 r2 => p pins s σ H x xs v us Q I r1 r2 h
theorem Paired.one {α β : Type} {R : α → β → Prop} {xs : List α} {y : β} (h : Paired R xs [y]) : ∃ x, xs = [x] ∧ R x y := by
  cases h with
  | cons r t => cases t; exact ⟨_, rfl, r⟩
theorem bmD_ok {X : Cx} {m : Bool} {f : Bm} {a : Str} {ds : List PD.D} {vs : List V} {k : KV} {L : Tab} {Hb H : Hp} {ad : List Addr} {Q : VK} (h : bmD f a ds (resK m L k)) (R : Rel pr.G Hb H ad L) (hk : KOk pr.G k Q Hb H ad) (r : Paired (Pk pr.G Hb H) vs ds) :
    mW X (bmI f) (.str a) vs H Q := by
  have fin : ∀ {w : V} {r : PD.D}, Rep pr.G Hb w r → k (.d r) L → Q w H := fun {w r} q h => hk w (.d r) L Hb H ad h R Stp.refl q
  rcases ds with _ | ⟨u, _ | ⟨_, _⟩⟩
  · cases f <;> exact h.elim
  · obtain ⟨x, rfl, px⟩ := Paired.one r
    cases f
    case join =>
      cases u <;> first | exact h.elim | skip
      obtain ⟨ys, rfl, hz, q⟩ := h
      obtain ⟨p, ws, rfl, h3, r1⟩ := px.lst R.ext
      rw [r1.ofStrs] at h3
      exact mW.by mt_join ⟨a, p, ys, rfl, rfl, .inl (SqL.of h3), hz, fin (.str _) q⟩
    case split =>
      cases u <;> first | exact h.elim | skip
      obtain ⟨h1, h2, q⟩ := h
      rw [px.str]
      refine mW.by mt_split ⟨a, _, rfl, rfl, h1, h2, fun p hp => ?_⟩
      refine mkL_ok q R hk ?_ hp
      generalize Txt.split a _ = ys
      induction ys with
      | nil => exact .nil
      | cons y ys ih => exact .cons (.str y) ih
    case index =>
      cases u <;> first | exact h.elim | skip
      obtain ⟨i, rest, h1, q⟩ := h
      rw [px.str]
      exact mW.by mt_sindex ⟨a, _, i, rest, rfl, rfl, h1, fin (.int _) q⟩
    case find =>
      cases u <;> first | exact h.elim | skip
      rw [px.str]
      exact mW.by mt_find ⟨a, _, rfl, rfl, fin (.int _) h⟩
    case count =>
      cases u <;> first | exact h.elim | skip
      rw [px.str]
      exact mW.by mt_count ⟨a, _, rfl, rfl, fin (.int _) h⟩
    case startswith =>
      cases u <;> first | exact h.elim | skip
      rw [px.str]
      exact mW.by mt_startswith ⟨a, _, rfl, rfl, fin (.bl _) h⟩
    all_goals exact h.elim
  · cases f <;> first | exact h.elim | (cases u <;> exact h.elim)
theorem noCall_base {eo : Expr} {y : Str} {env : PySem.Env} (h : noCall eo = true) (w : Sem Value) : attributeBase eo y env w = w := by
  cases eo <;> first | rfl | exact Bool.noConfusion h
theorem se_bm (f : Bm) {o : E} {as : Es} (ho : SE pr n o) (hs : SEs pr n as) : SE pr n (.bm f o as) := by
  intro me X W e m env L k z Hb H ad σ Q C tk mh h R E Z hk
  cases as with
  | nil => cases e <;> exact Bool.noConfusion mh
  | cons a as =>
  cases as with
  | cons _ _ => cases e <;> exact Bool.noConfusion mh
  | nil =>
  cases e <;> first | exact Bool.noConfusion mh | skip
  rename_i ef es kws q2
  cases ef <;> first | exact Bool.noConfusion mh | skip
  rename_i eo y q
  rcases es with _ | ⟨e, _ | ⟨_, _⟩⟩ <;> first | exact Bool.noConfusion mh | skip
  rcases kws with _ | ⟨_, _⟩ <;> first | exact Bool.noConfusion mh | skip
  have mh : (bmB f && (q.endLine == q2.line) && decide (y = bmN f) && noCall eo && noStar e && mE pr o me eo && mE pr a me e) = true := mh
  simp only [Bool.and_eq_true, decide_eq_true_eq] at mh
  obtain ⟨⟨⟨⟨⟨⟨m0, m1⟩, rfl⟩, m3⟩, m4⟩, m5⟩, m6⟩ := mh
  have ms : mEs pr (.cons a .nil) me [e] = true := by
    show (noStar e && mE pr a me e && true) = true
    rw [m4, m6]; rfl
  unfold wpE at h
  have st := star_of (es := []) (env := X.env) m4
  have fin : tBM X.K "str" (mW X (bmI f)) (wX X eo) (wA X [e]) σ H Q := by
    refine ho C tk m5 h R E Z fun v x L1 Hb1 H1 ad1 hh R1 s1 r1 => ?_
    cases x <;> first | exact hh.elim | skip
    rename_i u
    cases u <;> first | exact hh.elim | skip
    rename_i s
    cases (show Rep pr.G Hb1 v (.str s) from r1)
    refine ⟨rfl, ?_⟩
    refine hs C tk ms hh R1 (E.step s1) (Z.step s1) fun vs xs L2 Hb2 H2 ad2 h2 R2 s2 r2 => ?_
    cases q1 : dens L2 xs with
    | none => simp only [q1] at h2
    | some ds =>
      simp only [q1] at h2
      exact bmD_ok h2 R2 (hk.step (s1.trans s2)) (RepSs.dens (vs := []) R2 r2 q1)
  have hf : (((backTo q2 (starEach [e] X.env)).all (fun x => !x.1) && (backToKw q2 (keywordEach [] X.env)).all (fun x => x.1.isSome)) && decide ((([e] : List Expr).length + ([] : List Keyword).length + (if ([] : List Keyword).isEmpty then 0 else 1)) < 30)) = true := by rw [st]; rfl
  cases f <;> first | exact Bool.noConfusion m0 | skip
  case join => exact wX.by (pe_bm PySem.F.plainAttrs_str PySem.F.slot_str_join PySem.F.type_str_join mW.m wX.pe wA.pa (noCall_base m3 _) hf m1 st rfl) fin
  case split => exact wX.by (pe_bm PySem.F.plainAttrs_str PySem.F.slot_str_split PySem.F.type_str_split mW.m wX.pe wA.pa (noCall_base m3 _) hf m1 st rfl) fin
  case index => exact wX.by (pe_bm PySem.F.plainAttrs_str PySem.F.slot_str_index PySem.F.type_str_index mW.m wX.pe wA.pa (noCall_base m3 _) hf m1 st rfl) fin
  case find => exact wX.by (pe_bm PySem.F.plainAttrs_str PySem.F.slot_str_find PySem.F.type_str_find mW.m wX.pe wA.pa (noCall_base m3 _) hf m1 st rfl) fin
  case count => exact wX.by (pe_bm PySem.F.plainAttrs_str PySem.F.slot_str_count PySem.F.type_str_count mW.m wX.pe wA.pa (noCall_base m3 _) hf m1 st rfl) fin
  case startswith => exact wX.by (pe_bm PySem.F.plainAttrs_str PySem.F.slot_str_startswith PySem.F.type_str_startswith mW.m wX.pe wA.pa (noCall_base m3 _) hf m1 st rfl) fin
theorem se_fld (a : E) (f : Nat) : SE pr n (.fld a f) := by
  intro me X W e m env L k z Hb H ad σ Q C tk mh h R E Z hk
  unfold wpE at h
  exact h.elim
/-! ## all of it -/
mutual
theorem snd_E : ∀ a : E, SE pr n a
  | .non => se_non
  | .bl b => se_bl b
  | .int i => se_int i
  | .str s => se_str s
  | .var i => se_var i
  | .gc k => se_gc k
  | .bin op a b => se_bin op (snd_E a) (snd_E b)
  | .neg a => se_neg (snd_E a)
  | .cmp op a b => se_cmp op (snd_E a) (snd_E b)
  | .chain o1 o2 a b c => se_chain o1 o2 (snd_E a) (snd_E b) (snd_E c)
  | .and a b => se_and (snd_E a) (snd_E b)
  | .or a b => se_or (snd_E a) (snd_E b)
  | .not a => se_not (snd_E a)
  | .ife c a b => se_ife (snd_T c) (snd_E a) (snd_E b)
  | .call f as => se_call f (snd_Es as)
  | .bi f as => se_bi f (snd_Es as)
  | .bm f o as => se_bm f (snd_E o) (snd_Es as)
  | .isi a t => se_isi t (snd_E a)
  | .idx a i => se_idx (snd_E a) (snd_E i)
  | .slc a lo hi => se_slc (snd_E a) (snd_E lo) (snd_E hi)
  | .rev a => se_rev (snd_E a)
  | .edict => se_edict
  | .tdict a b => se_tdict (snd_E a) (snd_E b)
  | .lst as => se_lst (snd_Es as)
  | .tup as => se_tup (snd_Es as)
  | .mklist a => se_mklist (snd_E a)
  | .mkrange a => se_mkrange (snd_E a)
  | .comp tg it elt cs => se_comp tg (snd_I it) (snd_E elt) (snd_Ts cs)
  | .fld a f => se_fld a f
theorem snd_Es : ∀ a : Es, SEs pr n a
  | .nil => ses_nil
  | .cons a as => ses_cons (snd_E a) (snd_Es as)
theorem snd_T : ∀ a : T, ST pr n a
  | .and a b => st_and (snd_T a) (snd_T b)
  | .or a b => st_or (snd_T a) (snd_T b)
  | .not a => st_not (snd_T a)
  | .cmp op a b => st_cmp op (snd_E a) (snd_E b)
  | .chain o1 o2 a b c => st_chain o1 o2 (snd_E a) (snd_E b) (snd_E c)
  | .val a => st_val (snd_E a)
theorem snd_Ts : ∀ a : Ts, ∀ c, a = .cons c .nil → ST pr n c
  | .nil, _, h => nomatch h
  | .cons c _, _, h => by cases h; exact snd_T c
theorem snd_I : ∀ a : PD.It, SI pr n a
  | .seq a => si_seq (snd_E a)
  | .range1 b => si_range1 (snd_E b)
  | .range2 a b => si_range2 (snd_E a) (snd_E b)
  | .enum a => si_enum (snd_E a)
  | .zip a b => si_zip (snd_E a) (snd_E b)
  | .reversed a => si_rev (snd_E a)
end
end
end PD

namespace PD
open PySem L2
def wS (X : Cx) (st : Stmt) : TS := fun D σ H => ∀ (pins : List (Addr × Obj)) (s : Shared), Inv X pins σ H s → wpAny (model X.prog X.w) X.A (exec st X.env) (SP X pins D) X.xe s
theorem wS.ps {X : Cx} {st : Stmt} : PS X st (wS X st) := ⟨fun pins s σ H D I h => h pins s I⟩
theorem wS.by {X : Cx} {st : Stmt} {t : TS} {D : Ends} {σ : St} {H : Hp} (p : PS X st t) (h : t D σ H) : wS X st D σ H := fun pins s I => p.run pins s σ H D I h
def wSs (X : Cx) (sts : List Stmt) : TS := fun D σ H => ∀ (pins : List (Addr × Obj)) (s : Shared), Inv X pins σ H s → wpAny (model X.prog X.w) X.A (execs sts X.env) (SP X pins D) X.xe s
theorem wSs.pss {X : Cx} {sts : List Stmt} : PSs X sts (wSs X sts) := ⟨fun pins s σ H D I h => h pins s I⟩
theorem wSs.by {X : Cx} {sts : List Stmt} {t : TS} {D : Ends} {σ : St} {H : Hp} (p : PSs X sts t) (h : t D σ H) : wSs X sts D σ H := fun pins s I => p.run pins s σ H D I h
/-- what is wanted behind a statement, on data and on the heap -/
structure DOk (G : Gs) (K : Ko) (D : Ends) (W : WX) (Hb H : Hp) (ad : List Addr) : Prop where
  nx : ∀ env' L' Hb' H' ad' σ', K.nx env' L' → Rel G Hb' H' ad' L' → EnvR G Hb' ad' env' σ' → Stp Hb H ad Hb' H' ad' → D.nx σ' H'
  bk : ∀ env' L' Hb' H' ad' σ', K.bk env' L' → Rel G Hb' H' ad' L' → EnvR G Hb' ad' env' σ' → Stp Hb H ad Hb' H' ad' → D.bk σ' H'
  ct : ∀ env' L' Hb' H' ad' σ', K.ct env' L' → Rel G Hb' H' ad' L' → EnvR G Hb' ad' env' σ' → Stp Hb H ad Hb' H' ad' → D.ct σ' H'
  rt : ∀ v sv L' Hb' H' ad', K.rt sv L' → Rel G Hb' H' ad' L' → Stp Hb H ad Hb' H' ad' → RepS G Hb' ad' v sv → D.rt v H'
  z : ∀ x env' L' cls d Hb' H' ad' σ', K.z x env' L' → Rel G Hb' H' ad' L' → EnvR G Hb' ad' env' σ' → Stp Hb H ad Hb' H' ad' → XRep G H' x cls d → W cls d σ' H'
theorem DOk.step {G : Gs} {K : Ko} {D : Ends} {W : WX} {Hb H Hb1 H1 : Hp} {ad ad1 : List Addr} (a : Stp Hb H ad Hb1 H1 ad1) (d : DOk G K D W Hb H ad) : DOk G K D W Hb1 H1 ad1 :=
  ⟨fun e L Hb' H' ad' σ' h R E s => d.nx e L Hb' H' ad' σ' h R E (a.trans s), fun e L Hb' H' ad' σ' h R E s => d.bk e L Hb' H' ad' σ' h R E (a.trans s), fun e L Hb' H' ad' σ' h R E s => d.ct e L Hb' H' ad' σ' h R E (a.trans s),
    fun v sv L Hb' H' ad' h R s => d.rt v sv L Hb' H' ad' h R (a.trans s), fun x e L c dd Hb' H' ad' σ' h R E s => d.z x e L c dd Hb' H' ad' σ' h R E (a.trans s)⟩
/-- the exceptions of an expression -/
theorem DOk.Z {G : Gs} {K : Ko} {D : Ends} {W : WX} {Hb H : Hp} {ad : List Addr} {env : Env} {σ : St} (d : DOk G K D W Hb H ad) (E : EnvR G Hb ad env σ) : ZOk G (fun x => K.z x env) W σ Hb H ad :=
  fun x cls dd L' Hb' H' ad' hz R s xr => d.z x env L' cls dd Hb' H' ad' σ hz R (E.step s) s xr
section
variable {pr : Pr} {n : Nat}
def SS (pr : Pr) (n : Nat) (a : PD.S) : Prop := ∀ {me : Me} {X : Cx} {W : WX} {st : Stmt} {env : Env} {L : Tab} {K : Ko} {Hb H : Hp} {ad : List Addr} {σ : St} {D : Ends}, Ctx pr n me X → Takes X W → PassesOwn (model X.prog X.w) X.A X.env X.xe →
  mS pr a me st = true → wpS (Gam pr n) pr.gc a env L K → Rel pr.G Hb H ad L → EnvR pr.G Hb ad env σ → DOk pr.G K D W Hb H ad → wS X st D σ H
def SSs (pr : Pr) (n : Nat) (a : PD.Ss) : Prop := ∀ {me : Me} {X : Cx} {W : WX} {sts : List Stmt} {env : Env} {L : Tab} {K : Ko} {Hb H : Hp} {ad : List Addr} {σ : St} {D : Ends}, Ctx pr n me X → Takes X W → PassesOwn (model X.prog X.w) X.A X.env X.xe →
  mSs pr a me sts = true → wpSs (Gam pr n) pr.gc a env L K → Rel pr.G Hb H ad L → EnvR pr.G Hb ad env σ → DOk pr.G K D W Hb H ad → wSs X sts D σ H
/-! ### names given -/
theorem asg_ok {m : Bool} {i : Nat} {e : E} {me : Me} {X : Cx} {W : WX} {x : Str} {p pos : Pos} {ee : Expr} {env : Env} {L : Tab} {k : KV} {z : Xn → Tab → Prop} {Hb H : Hp} {ad : List Addr} {σ : St} {D : Ends} (C : Ctx pr n me X) (tk : Takes X W)
    (m1 : me.N[i]? = some x) (m2 : locB me x = true) (m3 : compA me x p ee = true) (m4 : mE pr e me ee = true) (h : wpE (Gam pr n) pr.gc e m env L k z) (R : Rel pr.G Hb H ad L) (E : EnvR pr.G Hb ad env σ) (Z : ZOk pr.G z W σ Hb H ad)
    (hk : ∀ v sv L' Hb' H' ad', k sv L' → Rel pr.G Hb' H' ad' L' → Stp Hb H ad Hb' H' ad' → RepS pr.G Hb' ad' v sv → D.nx (σ.set i (some v)) H') : wS X (.Assign [.Name x p] ee pos) D σ H := by
  obtain ⟨hx, hf⟩ := loc_of C.sc C.fb m2
  have gen : noComp ee = true → wS X (.Assign [.Name x p] ee pos) D σ H := fun nc =>
    wS.by (ps_set C.nd (by rw [C.N]; exact m1) hx wX.pe (swap_of nc) hf) (snd_E e C tk m4 h R E Z fun v sv L' Hb' H' ad' q R' s' r => hk v sv L' Hb' H' ad' q R' s' r)
  by_cases nc : noComp ee = true
  · exact gen nc
  · cases ee <;> first | exact absurd rfl nc | skip
    case SetComp => exact Bool.noConfusion m3
    case DictComp => exact Bool.noConfusion m3
    rename_i elt gens scope cpos
    have m3 : (locl me x && (p.line == cpos.line) && !(scope.names.any fun (n, k) => n == x && (k == .local || k == .cell))) = true := m3
    simp only [Bool.and_eq_true, Bool.not_eq_true'] at m3
    obtain ⟨⟨l1, l2⟩, l3⟩ := m3
    have hl : X.env.scope.names.lookup x = some .local := by
      unfold locl at l1
      rw [C.sc]
      cases q : me.sc.names.lookup x with
      | none => rw [q] at l1; cases l1
      | some kk => rw [q] at l1; cases kk <;> first | (cases l1; done) | rfl
    intro pins s I
    have sw := sw_true (elt := elt) (gs := gens) (scope := scope) (pos := cpos) (py := p) (y := x) (l := pos.line) I.ok.kind hl l2 l3
    cases e <;> first | exact Bool.noConfusion m4 | skip
    case bm f o as =>
      cases as with
      | nil => exact Bool.noConfusion m4
      | cons a2 as2 => cases as2 <;> exact Bool.noConfusion m4
    rename_i tg it elt' cs
    obtain ⟨et, ei, ifs, rfl, q1, q2, q3, q4, q5, q6⟩ := comp_form m4
    have bo : BlkOk X.N X.env.scope scope (ownOf me.N (tgSlots tg)) := by rw [C.N, C.sc]; exact blkOk_by q1
    have P := ps_setLc (spos := pos) (wi := wI X et ei) (g := gAll X scope et) (tt := ttAll X scope ifs) (te := teAll X scope elt) C.calm C.nd (by rw [C.N]; exact m1) hl sw wI.pi bo
      (fun s H Ce cl fp => ⟨fun pins s' σ H' v u Q I r hh => hh s H Ce cl fp pins s' u I r⟩)
      (fun s H Ce cl fp => ⟨fun pins s' σ H' Q I hh => hh s H Ce cl fp pins s' I⟩)
      (fun s H Ce cl fp => ⟨fun pins s' σ H' Q I hh => hh s H Ce cl fp pins s' I⟩) (fold_mI q4)
    rw [q2] at P
    exact P.run pins s σ H D I (comp_run (snd_I it) (snd_E elt') (snd_Ts cs) C tk q3 q4 q5 q6 h R E Z fun v sv L' Hb' H' ad' q R' s' r => hk v sv L' Hb' H' ad' q R' s' r)
theorem ss_asg (i : Nat) (e : E) : SS pr n (.asg (.v i) e) := by
  intro me X W st env L K Hb H ad σ D C tk po mh h R E d
  cases st <;> first | exact Bool.noConfusion mh | skip
  rename_i tgs ee pos
  rcases tgs with _ | ⟨t, tl⟩ <;> first | exact Bool.noConfusion mh | skip
  cases t <;> first | exact Bool.noConfusion mh | skip
  rename_i x p
  rcases tl with _ | ⟨_, _⟩ <;> first | exact Bool.noConfusion mh | skip
  have mh : (decide (me.N[i]? = some x) && locB me x && compA me x p ee && mE pr e me ee) = true := mh
  simp only [Bool.and_eq_true, decide_eq_true_eq] at mh
  unfold wpS at h
  exact asg_ok C tk mh.1.1.1 mh.1.1.2 mh.1.2 mh.2 h R E (d.Z E) fun v sv L' Hb' H' ad' q R' s' r => d.nx _ _ _ _ _ _ q R' ((E.step s').set i r) s'
theorem ss_own (i : Nat) (e : E) : SS pr n (.own i e) := by
  intro me X W st env L K Hb H ad σ D C tk po mh h R E d
  cases st <;> first | exact Bool.noConfusion mh | skip
  rename_i tgs ee pos
  rcases tgs with _ | ⟨t, tl⟩ <;> first | exact Bool.noConfusion mh | skip
  cases t <;> first | exact Bool.noConfusion mh | skip
  rename_i x p
  rcases tl with _ | ⟨_, _⟩ <;> first | exact Bool.noConfusion mh | skip
  have mh : (decide (me.N[i]? = some x) && locB me x && compA me x p ee && mE pr e me ee) = true := mh
  simp only [Bool.and_eq_true, decide_eq_true_eq] at mh
  unfold wpS at h
  exact asg_ok C tk mh.1.1.1 mh.1.1.2 mh.1.2 mh.2 h R E (d.Z E) fun v sv L' Hb' H' ad' q R' s' r => d.nx _ _ _ _ _ _ q R' ((E.step s').set i r) s'
theorem wG.pg {X : Cx} {tg : Expr} : PG X tg (wG X tg) := ⟨fun pins s σ H v u Q I r h => h pins s u I r⟩
theorem wG.by {X : Cx} {tg : Expr} {t : TG} {v : V} {σ : St} {H : Hp} {Q : St → Hp → Prop} (p : PG X tg t) (h : t v σ H Q) : wG X tg v σ H Q := fun pins s u I r => p.run pins s σ H v u Q I r h
theorem sole_of {t e : Expr} {l : Nat} {env : PySem.Env} (h : noComp e = true) : swapsWithSole [t] e l env = pure false := by
  unfold swapsWithSole
  exact swap_of h
theorem swp_of {ts : List Expr} {kk : Nat} {p : Pos} {e : Expr} {env : PySem.Env} (h : noTup e = true) : swappedStores [.Tuple ts kk p] e env = pure none := by
  cases e <;> first | rfl | exact Bool.noConfusion h
theorem ss_unpack (is : List Nat) (e : E) : SS pr n (.asg (.t is) e) := by
  intro me X W st env L K Hb H ad σ D C tk po mh h R E d
  cases st <;> first | exact Bool.noConfusion mh | skip
  rename_i tgs ee pos
  rcases tgs with _ | ⟨t, tl⟩ <;> first | exact Bool.noConfusion mh | skip
  cases t <;> first | exact Bool.noConfusion mh | skip
  rename_i es kk p
  rcases tl with _ | ⟨_, _⟩ <;> first | exact Bool.noConfusion mh | skip
  have mh : (mTgs me is es && noComp ee && noTup ee && mE pr e me ee) = true := mh
  simp only [Bool.and_eq_true] at mh
  obtain ⟨⟨⟨m1, m2⟩, m3⟩, m4⟩ := mh
  obtain ⟨t, pg, l1, l2, l3, run⟩ := tgs_ok (pr := pr) (n := n) C.N C.nd C.sc C.fb is es m1
  unfold wpS at h
  refine wS.by (ps_asg wX.pe wG.pg (sole_of m2) (swp_of m3) rfl) ?_
  refine snd_E e C tk m4 h R E (d.Z E) fun v sv L' Hb' H' ad' hh R' s' r => ?_
  cases q : den L' sv with
  | none => simp only [q] at hh
  | some u =>
    simp only [q] at hh
    cases u <;> first | exact hh.elim | skip
    case lst ds =>
      obtain ⟨a, vs, rfl, h3, r2⟩ := (R'.read r q).lst R'.ext
      refine wG.by (pg_lst C.calm pg l2 l3) ⟨a, vs, rfl, SqL.of h3, by rw [r2.length, ← l1]; exact hh.1.symm, ?_⟩
      exact run ds vs pr.G Hb' ad' env σ H' _ hh.1 r2 (E.step s') fun σ' E' _ _ => d.nx _ _ _ _ _ _ hh.2 R' E' s'
    case tup ds =>
      obtain ⟨a, vs, rfl, h3, r2⟩ := (R'.read r q).tup R'.ext
      refine wG.by (pg_tup C.calm pg l2 l3) ⟨a, vs, rfl, SqT.of h3, by rw [r2.length, ← l1]; exact hh.1.symm, ?_⟩
      exact run ds vs pr.G Hb' ad' env σ H' _ hh.1 r2 (E.step s') fun σ' E' _ _ => d.nx _ _ _ _ _ _ hh.2 R' E' s'
theorem noStar_any {a b : Expr} (h1 : noStar a = true) (h2 : noStar b = true) : ([a, b].any fun e => match e with | .Starred _ _ => true | _ => false) = false := by
  cases a <;> first | exact Bool.noConfusion h1 | skip
  all_goals cases b <;> first | exact Bool.noConfusion h2 | rfl
theorem par_sw {env : PySem.Env} {x y : Str} {p1 p2 p3 p4 : Pos} {k1 k2 : Nat} {a b : Expr} (hk : env.scope.kind = .function) (h1 : env.scope.names.lookup x = some .local) (h2 : env.scope.names.lookup y = some .local) (hl : p1.line = p2.line) (hn : x ≠ y)
    (f : okFold a b = true) : swappedStores [.Tuple [.Name x p1, .Name y p2] k1 p3] (.Tuple [a, b] k2 p4) env = pure (some [x, y]) := by
  unfold okFold at f
  simp only [Bool.and_eq_true, Bool.not_eq_true'] at f
  obtain ⟨⟨⟨f1, f2⟩, f3⟩, f4⟩ := f
  have kx : env.kindOf x = some .local := h1
  have ky : env.kindOf y = some .local := h2
  have hb : env.blockKind = .function := by unfold Env.blockKind; rw [hk]; rfl
  have st := noStar_any f1 f2
  have hxy : (y == x) = false := by rw [beq_eq_false_iff_ne]; exact fun z => hn z.symm
  unfold swappedStores
  simp only [hb, List.length_cons, List.length_nil, List.head?_cons, Option.map_some, Option.getD_some, Expr.pos, List.filterMap_cons, List.filterMap_nil, kx, ky, hl, f3, f4]
  simp [List.eraseDups_cons, hxy, f3, f4]
  intro z
  exfalso
  have key : ∀ e : Expr, noStar e = true → ¬ (match e with | .Starred _ _ => true | _ => false) = true := fun e h z => by
    cases e <;> first | exact Bool.noConfusion h | exact Bool.noConfusion z
  rcases z with z | z
  · exact key a f1 z
  · exact key b f2 z
theorem locl_of {me : Me} {X : Cx} {x : Str} (sc : X.env.scope = me.sc) (l1 : locl me x = true) : X.env.scope.names.lookup x = some .local := by
  unfold locl at l1
  rw [sc]
  cases q : me.sc.names.lookup x with
  | none => rw [q] at l1; cases l1
  | some kk => rw [q] at l1; cases kk <;> first | (cases l1; done) | rfl
theorem ss_par (i j : Nat) (a b : E) : SS pr n (.par i j a b) := by
  intro me X W st env L K Hb H ad σ D C tk po mh h R E d
  cases st <;> first | exact Bool.noConfusion mh | skip
  rename_i tgs ee pos
  rcases tgs with _ | ⟨t, tl⟩ <;> first | exact Bool.noConfusion mh | skip
  cases t <;> first | exact Bool.noConfusion mh | skip
  rename_i es kk p
  rcases es with _ | ⟨e1, es⟩ <;> first | exact Bool.noConfusion mh | skip
  cases e1 <;> first | exact Bool.noConfusion mh | skip
  rename_i x p1
  rcases es with _ | ⟨e2, es⟩ <;> first | exact Bool.noConfusion mh | skip
  cases e2 <;> first | exact Bool.noConfusion mh | skip
  rename_i y p2
  rcases es with _ | ⟨_, _⟩ <;> first | exact Bool.noConfusion mh | skip
  rcases tl with _ | ⟨_, _⟩ <;> first | exact Bool.noConfusion mh | skip
  cases ee <;> first | exact Bool.noConfusion mh | skip
  rename_i es2 kk2 p3
  rcases es2 with _ | ⟨ea, _ | ⟨eb, _ | ⟨_, _⟩⟩⟩ <;> first | exact Bool.noConfusion mh | skip
  have mh : (decide (me.N[i]? = some x) && decide (me.N[j]? = some y) && decide (i ≠ j) && locl me x && locl me y && decide (p1.line = p2.line) && decide (x ≠ y) && okFold ea eb && mE pr a me ea && mE pr b me eb) = true := mh
  simp only [Bool.and_eq_true, decide_eq_true_eq] at mh
  obtain ⟨⟨⟨⟨⟨⟨⟨⟨⟨m1, m2⟩, m3⟩, m4⟩, m5⟩, m6⟩, m7⟩, m8⟩, m9⟩, m10⟩ := mh
  have hx := locl_of C.sc m4
  have hy := locl_of C.sc m5
  have f12 : noStar ea = true ∧ noStar eb = true := by
    unfold okFold at m8
    simp only [Bool.and_eq_true] at m8
    exact m8.1.1
  unfold wpS at h
  intro pins s I
  refine (ps_par C.calm C.nd (by rw [C.N]; exact m1) (by rw [C.N]; exact m2) m3 hx hy (pa_cons wX.pe (pa_cons wX.pe pa_nil (star_of f12.2)) (star_of f12.1)) (par_sw I.ok.kind hx hy m6 m7 m8) rfl).run pins s σ H D I ?_
  exact two (k2 := fun x y L2 => K.nx (setS (setS env i x) j y) L2) (snd_E a) (snd_E b) C tk m9 m10 h R E (d.Z E) fun v w x y L2 Hb2 H2 ad2 hh R2 s2 r1 r2 => ⟨v, w, rfl, d.nx _ _ _ _ _ _ hh R2 (((E.step s2).set i r1).set j r2) s2⟩
theorem ss_aug (i : Nat) (op : BOp) (e : E) : SS pr n (.aug i op e) := by
  intro me X W st env L K Hb H ad σ D C tk po mh h R E d
  have key : ∀ {o : Operator} {f : Int → Int → Int} {x : Str} {p pos : Pos} {ee : Expr}, PIp X o (ipI f) → st = .AugAssign (.Name x p) o ee pos → (decide (me.N[i]? = some x) && locB me x && mE pr e me ee) = true →
      (∀ a b L1, (match op with | .add => K.nx (setS env i (.d (.int (a + b)))) L1 | .sub => K.nx (setS env i (.d (.int (a - b)))) L1 | _ => False) → K.nx (setS env i (.d (.int (f a b)))) L1) → wS X st D σ H := fun {o f x p pos ee} ip es mm hf => by
    subst es
    simp only [Bool.and_eq_true, decide_eq_true_eq] at mm
    obtain ⟨⟨m1, m2⟩, m3⟩ := mm
    obtain ⟨hx, hf'⟩ := loc_of C.sc C.fb m2
    unfold wpS at h
    cases q : env[i]? with
    | none => rw [q] at h; exact h.elim
    | some ov =>
      cases ov with
      | none => rw [q] at h; exact h.elim
      | some sv =>
        rw [q] at h
        obtain ⟨v, e1, r⟩ := E.at_ i sv q
        refine wS.by (ps_aug C.nd (by rw [C.N]; exact m1) hx wX.pe ip hf') ⟨v, e1, ?_⟩
        refine snd_E e C tk m3 h R E (d.Z E) fun w y L1 Hb1 H1 ad1 hh R1 s1 r1 => ?_
        cases sv <;> first | exact hh.elim | skip
        rename_i x1
        cases x1 <;> first | exact hh.elim | skip
        rename_i a
        cases y <;> first | exact hh.elim | skip
        rename_i y1
        cases y1 <;> first | exact hh.elim | skip
        rename_i b
        cases (show Rep pr.G Hb v (.int a) from r)
        cases (show Rep pr.G Hb1 w (.int b) from r1)
        exact ⟨a, b, rfl, rfl, d.nx _ _ _ _ _ _ (hf a b L1 hh) R1 ((E.step s1).set (sv := .d (.int (f a b))) i (.int _)) s1⟩
  cases st <;> first | (cases op <;> exact Bool.noConfusion mh) | skip
  rename_i t o ee pos
  cases t <;> first | (cases op <;> exact Bool.noConfusion mh) | skip
  rename_i x p
  cases op <;> first | exact Bool.noConfusion mh | skip
  case add => cases o <;> first | exact Bool.noConfusion mh | exact key ip_add rfl mh fun a b L1 h => h
  case sub => cases o <;> first | exact Bool.noConfusion mh | exact key ip_sub rfl mh fun a b L1 h => h
theorem ss_ret (e : E) : SS pr n (.ret e) := by
  intro me X W st env L K Hb H ad σ D C tk po mh h R E d
  cases st <;> first | exact Bool.noConfusion mh | skip
  rename_i v pos
  cases v <;> first | exact Bool.noConfusion mh | skip
  have mh : mE pr e me _ = true := mh
  unfold wpS at h
  exact wS.by (ps_ret wX.pe) (snd_E e C tk mh h R E (d.Z E) fun v sv L1 Hb1 H1 ad1 hh R1 s1 r1 => d.rt v sv L1 Hb1 H1 ad1 hh R1 s1 r1)
theorem ss_retO (e : E) : SS pr n (.retO e) := by
  intro me X W st env L K Hb H ad σ D C tk po mh h R E d
  cases st <;> first | exact Bool.noConfusion mh | skip
  rename_i v pos
  cases v <;> first | exact Bool.noConfusion mh | skip
  have mh : mE pr e me _ = true := mh
  unfold wpS at h
  exact wS.by (ps_ret wX.pe) (snd_E e C tk mh h R E (d.Z E) fun v sv L1 Hb1 H1 ad1 hh R1 s1 r1 => d.rt v sv L1 Hb1 H1 ad1 hh R1 s1 r1)
theorem ss_never : SS pr n .never := by
  intro me X W st env L K Hb H ad σ D C tk po mh h R E d
  unfold wpS at h
  exact h.elim
theorem ss_retN : SS pr n .retN := by
  intro me X W st env L K Hb H ad σ D C tk po mh h R E d
  cases st <;> first | exact Bool.noConfusion mh | skip
  rename_i v pos
  cases v <;> first | exact Bool.noConfusion mh | skip
  unfold wpS at h
  exact wS.by ps_retN (d.rt .non (.d .non) L Hb H ad h R Stp.refl .non)
theorem ss_expr (e : E) : SS pr n (.expr e) := by
  intro me X W st env L K Hb H ad σ D C tk po mh h R E d
  cases st <;> first | exact Bool.noConfusion mh | skip
  rename_i ee pos
  have mh : (noComp ee && mE pr e me ee) = true := mh
  simp only [Bool.and_eq_true] at mh
  unfold wpS at h
  exact wS.by (ps_expr wX.pe (swap_of mh.1)) (snd_E e C tk mh.2 h R E (d.Z E) fun v sv L1 Hb1 H1 ad1 hh R1 s1 r1 => d.nx _ _ _ _ _ _ hh R1 (E.step s1) s1)
theorem ss_pass : SS pr n .pass := by
  intro me X W st env L K Hb H ad σ D C tk po mh h R E d
  cases st <;> first | exact Bool.noConfusion mh | skip
  unfold wpS at h
  exact wS.by ps_pass (d.nx _ _ _ _ _ _ h R E Stp.refl)
/-- the reading of a local's own value -/
theorem slot_ok {i : Nat} {x : Str} {p : Pos} {me : Me} {X : Cx} (C : Ctx pr n me X) (m1 : me.N[i]? = some x) (m2 : visB me.sc x = true) (m3 : dbgB x = true) :
    PE X (.Name x p) (tVar i) := pe_var (by rw [C.N]; exact m1) (vis_of C.sc m2) (dbg_of m3).1 (dbg_of m3).2
/-- a cell that is held by a slot -/
theorem cell_of {i j : Nat} {ds : List PD.D} {env : Env} {L : Tab} {Hb H : Hp} {ad : List Addr} {σ : St} (R : Rel pr.G Hb H ad L) (E : EnvR pr.G Hb ad env σ) (q : env[i]? = some (some (.c j))) (qL : L[j]? = some (.lst ds)) :
    ∃ a vs, σ[i]? = some (some (.ref a)) ∧ ad[j]? = some a ∧ H a = some (.lst vs) := by
  obtain ⟨v, e1, a, e2, rfl⟩ := E.at_ i _ q
  obtain ⟨_, vs, h1, _⟩ := R.cell j ds a qL e2
  exact ⟨a, vs, e1, e2, h1⟩
theorem ss_grow {i : Nat} {e : E} {ex : Bool} {f : Str} {me : Me} {X : Cx} {W : WX} {x : Str} {p q q2 pos : Pos} {ee : Expr} {env : Env} {L : Tab} {K : Ko} {Hb H : Hp} {ad : List Addr} {σ : St} {D : Ends} (C : Ctx pr n me X) (tk : Takes X W)
    (mh : ((q.endLine == q2.line) && decide (me.N[i]? = some x) && visB me.sc x && dbgB x && decide (f = (if ex then ("extend" : Str) else ("append" : Str))) && noStar ee && mE pr e me ee) = true)
    (h : wpS (Gam pr n) pr.gc (if ex then .extend i e else .append i e) env L K) (R : Rel pr.G Hb H ad L) (E : EnvR pr.G Hb ad env σ) (d : DOk pr.G K D W Hb H ad) : wS X (.Expr (.Call (.Attribute (.Name x p) f q) [ee] [] q2) pos) D σ H := by
  simp only [Bool.and_eq_true, decide_eq_true_eq] at mh
  obtain ⟨⟨⟨⟨⟨⟨m0, m1⟩, m2⟩, m3⟩, mf⟩, m5⟩, m6⟩ := mh
  cases ex with
  | false =>
    simp only [Bool.false_eq_true, if_false] at h mf
    subst mf
    unfold wpS at h
    cases q1 : env[i]? with
    | none => rw [q1] at h; exact h.elim
    | some o =>
      rw [q1] at h
      rcases o with _ | (_ | j)
      · exact h.elim
      · exact h.elim
      obtain ⟨⟨ds0, qL⟩, h⟩ := h
      obtain ⟨a, vs, e1, e2, h1⟩ := cell_of R E q1 qL
      refine wS.by (ps_expr (pe_bm PySem.F.plainAttrs_list PySem.F.slot_list_append PySem.F.type_list_append mt_append (slot_ok C m1 m2 m3) (pa_cons wX.pe pa_nil (star_of m5)) rfl (by rw [star_of m5]; rfl) m0 (star_of m5) rfl) rfl) ?_
      refine ⟨_, e1, .inl ⟨rfl, vs, SqL.of h1⟩, ?_⟩
      refine snd_E e C tk m6 h R E (d.Z E) fun v sv L1 Hb1 H1 ad1 hh R1 s1 r1 => ?_
      cases q2 : den L1 sv with
      | none => simp only [q2] at hh
      | some x =>
        simp only [q2] at hh
        obtain ⟨ds, qd, sz, nx⟩ := hh
        obtain ⟨Hb2, R2, s2, r2⟩ := R1.freeze r1 q2
        have ea := (s1.trans s2).pre e2
        obtain ⟨k0, ws, k1, k2⟩ := R2.cell j ds a qd ea
        obtain ⟨R3, s3⟩ := R2.setO (oo := .lst _) (ct' := .lst _) qd rfl ea (k2.append (.cons r2 .nil))
        exact ⟨a, ws, v, rfl, rfl, k1, by rw [k2.length]; exact sz, d.nx _ _ _ _ _ _ nx R3 (((E.step s1).step s2).step s3) ((s1.trans s2).trans s3)⟩
  | true =>
    simp only [if_true] at h mf
    subst mf
    unfold wpS at h
    cases q1 : env[i]? with
    | none => rw [q1] at h; exact h.elim
    | some o =>
      rw [q1] at h
      rcases o with _ | (_ | j)
      · exact h.elim
      · exact h.elim
      obtain ⟨⟨ds0, qL⟩, h⟩ := h
      obtain ⟨a, vs, e1, e2, h1⟩ := cell_of R E q1 qL
      refine wS.by (ps_expr (pe_bm PySem.F.plainAttrs_list PySem.F.slot_list_extend PySem.F.type_list_extend mt_extend (slot_ok C m1 m2 m3) (pa_cons wX.pe pa_nil (star_of m5)) rfl (by rw [star_of m5]; rfl) m0 (star_of m5) rfl) rfl) ?_
      refine ⟨_, e1, .inl ⟨rfl, vs, SqL.of h1⟩, ?_⟩
      refine snd_E e C tk m6 h R E (d.Z E) fun v sv L1 Hb1 H1 ad1 hh R1 s1 r1 => ?_
      cases q2 : den L1 sv with
      | none => simp only [q2] at hh
      | some x =>
        simp only [q2] at hh
        cases x <;> first | exact hh.elim | skip
        rename_i es
        obtain ⟨ds, qd, sz, nx⟩ := hh
        obtain ⟨Hb2, b, us, rfl, R2, s2, h2, r2⟩ := walk_lst R1 r1 q2
        have ea := (s1.trans s2).pre e2
        obtain ⟨k0, ws, k1, k2⟩ := R2.cell j ds a qd ea
        obtain ⟨R3, s3⟩ := R2.setO (oo := .lst _) (ct' := .lst _) qd rfl ea (k2.append r2)
        exact ⟨a, b, ws, us, rfl, rfl, k1, R2.ext _ _ h2, by rw [k2.length, r2.length]; exact sz, d.nx _ _ _ _ _ _ nx R3 (((E.step s1).step s2).step s3) ((s1.trans s2).trans s3)⟩
theorem ss_append (i : Nat) (e : E) : SS pr n (.append i e) := by
  intro me X W st env L K Hb H ad σ D C tk po mh h R E d
  cases st <;> first | exact Bool.noConfusion mh | skip
  rename_i ee pos
  cases ee <;> first | exact Bool.noConfusion mh | skip
  rename_i ef es kws pos2
  cases ef <;> first | exact Bool.noConfusion mh | skip
  rename_i en f pos3
  cases en <;> first | exact Bool.noConfusion mh | skip
  rename_i x p
  rcases es with _ | ⟨ea, _ | ⟨_, _⟩⟩ <;> first | exact Bool.noConfusion mh | skip
  rcases kws with _ | ⟨_, _⟩ <;> first | exact Bool.noConfusion mh | skip
  exact ss_grow (ex := false) C tk mh h R E d
theorem ss_extend (i : Nat) (e : E) : SS pr n (.extend i e) := by
  intro me X W st env L K Hb H ad σ D C tk po mh h R E d
  cases st <;> first | exact Bool.noConfusion mh | skip
  rename_i ee pos
  cases ee <;> first | exact Bool.noConfusion mh | skip
  rename_i ef es kws pos2
  cases ef <;> first | exact Bool.noConfusion mh | skip
  rename_i en f pos3
  cases en <;> first | exact Bool.noConfusion mh | skip
  rename_i x p
  rcases es with _ | ⟨ea, _ | ⟨_, _⟩⟩ <;> first | exact Bool.noConfusion mh | skip
  rcases kws with _ | ⟨_, _⟩ <;> first | exact Bool.noConfusion mh | skip
  exact ss_grow (ex := true) C tk mh h R E d
theorem ss_setix (i : Nat) (b e : E) : SS pr n (.setix i b e) := by
  intro me X W st env L K Hb H ad σ D C tk po mh h R E d
  cases st <;> first | exact Bool.noConfusion mh | skip
  rename_i tgs ee pos
  rcases tgs with _ | ⟨t, tl⟩ <;> first | exact Bool.noConfusion mh | skip
  cases t <;> first | exact Bool.noConfusion mh | skip
  rename_i en eb pos2
  cases en <;> first | exact Bool.noConfusion mh | skip
  rename_i x p
  rcases tl with _ | ⟨_, _⟩ <;> first | exact Bool.noConfusion mh | skip
  have mh : (decide (me.N[i]? = some x) && visB me.sc x && dbgB x && noSlice eb && noComp ee && mE pr e me ee && mE pr b me eb) = true := mh
  simp only [Bool.and_eq_true, decide_eq_true_eq] at mh
  obtain ⟨⟨⟨⟨⟨⟨m1, m2⟩, m3⟩, m4⟩, m5⟩, m6⟩, m7⟩ := mh
  unfold wpS at h
  have sub : ∀ v, assign (.Subscript (.Name x p) eb pos2) X.env v = (do
      let ov ← holding [v] (eval (.Name x p) X.env)
      let iv ← holding [v, ov] (eval eb X.env)
      standAt pos2
      holding [v, ov, iv] (setItem ov iv v)
      release [v, ov, iv] []) := by
    intro v
    cases eb <;> first | rfl | exact Bool.noConfusion m4
  cases q1 : env[i]? with
  | none => rw [q1] at h; exact h.elim
  | some o =>
    rw [q1] at h
    rcases o with _ | (_ | j)
    · exact h.elim
    · exact h.elim
    obtain ⟨u, e1, a, e2, rfl⟩ := E.at_ i _ q1
    refine wS.by (ps_asg wX.pe (pg_sub (slot_ok C m1 m2 m3) wX.pe set_list sub) (sole_of m5) rfl rfl) ?_
    refine snd_E e C tk m6 h R E (d.Z E) fun v sv L1 Hb1 H1 ad1 hh R1 s1 r1 => ⟨_, e1, ?_⟩
    refine snd_E b C tk m7 hh R1 (E.step s1) ((d.Z E).step s1) fun w sw L2 Hb2 H2 ad2 h2 R2 s2 r2 => ?_
    cases sw <;> first | exact h2.elim | skip
    rename_i y
    cases y <;> first | exact h2.elim | skip
    rename_i k
    cases (show Rep pr.G Hb2 w (.int k) from r2)
    cases q2 : den L2 sv with
    | none => simp only [q2] at h2
    | some x =>
      simp only [q2] at h2
      obtain ⟨ds, kk, qd, hk, nx⟩ := h2
      obtain ⟨Hb3, R3, s3, r3⟩ := R2.freeze (r1.step s2) q2
      have st := (s1.trans s2).trans s3
      have ea := st.pre e2
      obtain ⟨k0, ws, k1, k2⟩ := R3.cell j ds a qd ea
      obtain ⟨R4, s4⟩ := R3.setO (oo := .lst _) (ct' := .lst _) qd rfl ea (k2.set r3 kk)
      exact ⟨a, ws, k, kk, rfl, rfl, k1, by rw [k2.length]; exact hk, d.nx _ _ _ _ _ _ nx R4 ((E.step st).step s4) (st.trans s4)⟩
/-- a key put into an own dict of ints -/
theorem putI_ok : ∀ (ks : List Int) (n : Int), putK (ks.map fun i => ((Sum.inl i : Key), V.bl true)) (Sum.inl n) (V.bl true) = (putI ks n).map fun i => ((Sum.inl i : Key), V.bl true) := by
  intro ks n
  have any : ((ks.map fun i => ((Sum.inl i : Key), V.bl true)).any fun kv => decide (kv.1 = Sum.inl n)) = decide (n ∈ ks) := by
    induction ks with
    | nil => simp
    | cons a t ih =>
      rw [List.map_cons, List.any_cons, ih]
      by_cases h : a = n
      · subst h; simp
      · have h2 : ¬ n = a := fun z => h z.symm
        simp [h, h2]
  unfold putK putI
  rw [any]
  by_cases h : n ∈ ks
  · rw [decide_eq_true h, if_pos rfl, if_pos h, List.map_map]
    refine List.map_congr_left fun a _ => ?_
    show (if (Sum.inl a : Key) = Sum.inl n then ((Sum.inl a : Key), V.bl true) else ((Sum.inl a : Key), V.bl true)) = _
    split <;> rfl
  · rw [decide_eq_false h, if_neg Bool.false_ne_true, if_neg h, List.map_append]
    rfl
theorem ss_setk (i : Nat) (b : E) : SS pr n (.setk i b) := by
  intro me X W st env L K Hb H ad σ D C tk po mh h R E d
  cases st <;> first | exact Bool.noConfusion mh | skip
  rename_i tgs ee pos
  rcases tgs with _ | ⟨t, tl⟩ <;> first | exact Bool.noConfusion mh | skip
  cases t <;> first | exact Bool.noConfusion mh | skip
  rename_i en eb pos2
  cases en <;> first | exact Bool.noConfusion mh | skip
  rename_i x p
  rcases tl with _ | ⟨_, _⟩ <;> first | exact Bool.noConfusion mh | skip
  cases ee <;> first | exact Bool.noConfusion mh | skip
  rename_i cc k1 p1
  cases cc <;> first | exact Bool.noConfusion mh | skip
  rename_i bb
  have mh : (bb && decide (me.N[i]? = some x) && visB me.sc x && dbgB x && noSlice eb && mE pr b me eb) = true := mh
  simp only [Bool.and_eq_true, decide_eq_true_eq] at mh
  obtain ⟨⟨⟨⟨⟨m0, m1⟩, m2⟩, m3⟩, m4⟩, m7⟩ := mh
  subst m0
  unfold wpS at h
  have sub : ∀ v, assign (.Subscript (.Name x p) eb pos2) X.env v = (do
      let ov ← holding [v] (eval (.Name x p) X.env)
      let iv ← holding [v, ov] (eval eb X.env)
      standAt pos2
      holding [v, ov, iv] (setItem ov iv v)
      release [v, ov, iv] []) := by
    intro v
    cases eb <;> first | rfl | exact Bool.noConfusion m4
  cases q1 : env[i]? with
  | none => rw [q1] at h; exact h.elim
  | some o =>
    rw [q1] at h
    rcases o with _ | (_ | j)
    · exact h.elim
    · exact h.elim
    obtain ⟨u, e1, a, e2, rfl⟩ := E.at_ i _ q1
    refine wS.by (ps_asg pe_bl (pg_sub (slot_ok C m1 m2 m3) wX.pe (set_dict (by have := C.room.un; omega)) sub) (sole_of rfl) rfl rfl) ?_
    refine ⟨_, e1, ?_⟩
    refine snd_E b C tk m7 h R E (d.Z E) fun w sw L2 Hb2 H2 ad2 h2 R2 s2 r2 => ?_
    cases sw <;> first | exact h2.elim | skip
    rename_i y
    cases y <;> first | exact h2.elim | skip
    rename_i k
    cases (show Rep pr.G Hb2 w (.int k) from r2)
    obtain ⟨ks, qd, hk, nx⟩ := h2
    have ea := s2.pre e2
    obtain ⟨k0, oo, k1, k2⟩ := R2.own j _ a qd ea rfl
    cases oo <;> first | exact k2.elim | skip
    have k2' := k2
    cases (show _ = _ from k2)
    obtain ⟨R4, s4⟩ := R2.setO (oo := .dK ((putI ks k).map fun i => ((Sum.inl i : Key), V.bl true))) (ct' := .ob (.kst (putI ks k))) qd rfl ea rfl
    refine ⟨a, _, rfl, DPut.k (k := (Sum.inl k : Key)) (v := V.bl true) k1 (by rw [List.length_map]; exact hk), ?_⟩
    rw [putI_ok]
    exact d.nx _ _ _ _ _ _ nx R4 ((E.step s2).step s4) (s2.trans s4)
/-! ### freezing -/
theorem frzSlots_ok {H : Hp} {ad : List Addr} {σ : St} : ∀ (sl : List Nat) {Hb : Hp} {env : Env} {L : Tab}, Rel pr.G Hb H ad L → EnvR pr.G Hb ad env σ →
    ∃ Hb', Rel pr.G Hb' H ad (frzSlots sl env L).2 ∧ EnvR pr.G Hb' ad (frzSlots sl env L).1 σ ∧ Stp Hb H ad Hb' H ad
  | [], Hb, env, L, R, E => ⟨Hb, R, E, Stp.refl⟩
  | i :: is, Hb, env, L, R, E => by
    unfold frzSlots
    cases q : env[i]? with
    | none => exact frzSlots_ok is R E
    | some o =>
      rcases o with _ | (x | j)
      · exact frzSlots_ok is R E
      · exact frzSlots_ok is R E
      · simp only []
        cases q2 : L[j]? with
        | none => exact frzSlots_ok is R (E.unset i)
        | some ct =>
          simp only []
          obtain ⟨v, e1, a, e2, rfl⟩ := E.at_ i _ q
          have r : RepS pr.G Hb ad (.ref a) (.c j) := ⟨a, e2, rfl⟩
          obtain ⟨Hb1, R1, s1, r1⟩ := R.freeze r (den_c q2)
          have eL : frzT L (.c j) = L.set j (.fz ct.dat) := by
            cases ct with
            | lst ds => rw [frzT_lst q2]; rfl
            | ob u => rw [frzT_ob q2]; rfl
            | fz x =>
              rw [frzT_fz q2]
              apply List.ext_getElem?
              intro k
              by_cases h : j = k
              · subst h
                obtain ⟨hl, _⟩ := List.getElem?_eq_some_iff.mp q2
                rw [List.getElem?_set_self hl]
                exact q2
              · rw [List.getElem?_set_ne h]
          rw [eL] at R1
          have E1 : EnvR pr.G Hb1 ad (env.set i (some (.d ct.dat))) σ := by
            have q3 := (E.step s1).set (v := .ref a) (sv := .d ct.dat) i r1
            have e3 : σ.set i (some (.ref a)) = σ := by
              apply List.ext_getElem?
              intro k
              by_cases h : i = k
              · subst h
                obtain ⟨hl, _⟩ := List.getElem?_eq_some_iff.mp e1
                rw [List.getElem?_set_self hl]
                exact e1.symm
              · rw [List.getElem?_set_ne h]
            rw [e3] at q3
            exact q3
          obtain ⟨Hb2, R2, E2, s2⟩ := frzSlots_ok is R1 E1
          exact ⟨Hb2, R2, E2, s1.trans s2⟩
theorem EnvR.cut {Hb : Hp} {ad ns : List Addr} {σ : St} {env : Env} (E : EnvR pr.G Hb (ad ++ ns) env σ) : EnvR pr.G Hb ad (env.map (cutV1 ad.length)) σ := by
  refine ⟨by simp [E.len], fun i sv h => ?_⟩
  rw [List.getElem?_map] at h
  cases q : env[i]? with
  | none => rw [q] at h; cases h
  | some o =>
    rw [q] at h
    rcases o with _ | (x | j)
    · cases h
    · cases h
      exact E.at_ i _ q
    · have h : (if j < ad.length then some (SV.c j) else none) = some sv := Option.some.inj h
      by_cases hj : j < ad.length
      · rw [if_pos hj] at h
        cases h
        obtain ⟨v, e1, a, e2, rfl⟩ := E.at_ i _ q
        exact ⟨_, e1, a, by rw [List.getElem?_append_left hj] at e2; exact e2, rfl⟩
      · rw [if_neg hj] at h
        cases h
/-- behind a turn of a loop, or ahead of it -/
theorem nrm_ok {Hb0 H0 Hb H : Hp} {ad ad' : List Addr} {σ : St} (sl : List Nat) {env : Env} {L : Tab} {m : Nat} (hm : ad.length = m) (s : Stp Hb0 H0 ad Hb H ad') (R : Rel pr.G Hb H ad' L) (E : EnvR pr.G Hb ad' env σ) :
    ∃ Hb', Rel pr.G Hb' H ad (nrmT sl m env L) ∧ EnvR pr.G Hb' ad (nrmE sl m env L) σ ∧ Stp Hb0 H0 ad Hb' H ad := by
  obtain ⟨Hb1, R1, E1, s1⟩ := frzSlots_ok (H := H) sl R E
  obtain ⟨ns, rfl, _⟩ := s.new
  subst hm
  refine ⟨Hb1, ?_, E1.cut, (s.trans s1).trunc⟩
  have len := R1.len
  have e : (frzSlots sl env L).2 = nrmT sl ad.length env L ++ (frzSlots sl env L).2.drop ad.length := (List.take_append_drop _ _).symm
  rw [e] at R1
  refine R1.trunc ?_
  unfold nrmT
  rw [List.length_take, ← len]
  simp
end
end PD

namespace PD
open PySem L2
section
variable {pr : Pr} {n : Nat}
theorem ss_ife (c : T) {a b : PD.Ss} (ha : SSs pr n a) (hb : SSs pr n b) : SS pr n (.ife c a b) := by
  intro me X W st env L K Hb H ad σ D C tk po mh h R E d
  cases st <;> first | exact Bool.noConfusion mh | skip
  rename_i ec sa sb pos
  have mh : (mT pr c me ec && mSs pr a me sa && mSs pr b me sb) = true := mh
  simp only [Bool.and_eq_true] at mh
  obtain ⟨⟨m1, m2⟩, m3⟩ := mh
  unfold wpS at h
  refine wS.by (ps_if wT.pt wSs.pss wSs.pss) ?_
  refine snd_T c C tk m1 h R E (d.Z E) fun r L1 Hb1 H1 ad1 hh R1 s1 => ?_
  cases r with
  | true => rw [if_pos rfl]; exact ha C tk po m2 (hh.1 rfl) R1 (E.step s1) (d.step s1)
  | false => rw [if_neg Bool.false_ne_true]; exact hb C tk po m3 (hh.2 rfl) R1 (E.step s1) (d.step s1)
theorem ss_for (tg : Tg) (it : PD.It) (sl : List Nat) {body : PD.Ss} (hb : SSs pr n body) : SS pr n (.for_ tg it sl body) := by
  intro me X W st env L K Hb H ad σ D C tk po mh h R E d
  cases st <;> first | exact Bool.noConfusion mh | skip
  rename_i et ei sb els pos
  rcases els with _ | ⟨_, _⟩ <;> first | exact Bool.noConfusion mh | skip
  have mh : (mTg me tg et && mI pr it me et ei && mSs pr body me sb) = true := mh
  simp only [Bool.and_eq_true] at mh
  obtain ⟨⟨m1, m2⟩, m3⟩ := mh
  unfold wpS at h
  obtain ⟨tt, pg, run⟩ := tg_ok (pr := pr) (n := n) C.N C.nd C.sc C.fb C.calm m1
  refine wS.by (ps_for po C.calm wI.pi pg wSs.pss (fold_mI m2)) ?_
  refine snd_I it C tk m2 h R E (d.Z E) fun items J L1 Hb1 H1 ad1 hh R1 s1 io => ?_
  obtain ⟨I, i0, turn, fin⟩ := hh
  have len1 : ad1.length = L1.length := R1.len
  let Wv : Nat → Nat → St → Hp → Prop := fun i mm σ' Hx => mm = items.length - i ∧ i ≤ items.length ∧ ∃ env' L' Hbx, I i env' L' ∧ Rel pr.G Hbx Hx ad1 L' ∧ EnvR pr.G Hbx ad1 env' σ' ∧ Stp Hb1 H1 ad1 Hbx Hx ad1
  obtain ⟨Hb2, R2, E2, s2⟩ := nrm_ok (pr := pr) sl len1 Stp.refl R1 (E.step s1)
  refine ⟨Wv, ⟨items.length, by simp, Nat.zero_le _, _, _, Hb2, i0, R2, E2, s2⟩, ?_⟩
  rintro i mm σ' Hx ⟨rfl, hi, env', L', Hbx, ii, Rx, Ex, sx⟩
  by_cases hlt : i < items.length
  · refine .inr ⟨io.go i Hx (sx.base.trans Rx.ext) hlt, fun σ2 H' => Wv (i + 1) (items.length - (i + 1)) σ2 H', fun σ2 H' p => ⟨_, by omega, p⟩, fun x H' y => ?_⟩
    obtain ⟨dd, Hb3, hd, R3, s3, r3⟩ := io.yld i Hx Hbx ad1 L' x H' sx.base Rx y hlt
    have t := turn i dd env' L' hd ii
    refine run dd x pr.G Hb3 ad1 env' σ' H' _ _ t R3.ext r3 (Ex.step s3) fun env2 σ2 hk E3 _ _ => ?_
    have s4 := sx.trans s3
    have back : ∀ (e' : Env) (l' : Tab) (Hb' Hn : Hp) (ad' : List Addr) (σn : St), I (i + 1) (nrmE sl L1.length e' l') (nrmT sl L1.length e' l') → Rel pr.G Hb' Hn ad' l' → EnvR pr.G Hb' ad' e' σn → Stp Hb3 H' ad1 Hb' Hn ad' → Wv (i + 1) (items.length - (i + 1)) σn Hn := fun e' l' Hb' Hn ad' σn hn Rn En sn => by
      obtain ⟨Hb5, R5, E5, s5⟩ := nrm_ok (pr := pr) sl len1 (s4.trans sn) Rn En
      exact ⟨rfl, hlt, _, _, Hb5, hn, R5, E5, s5⟩
    refine hb C tk po m3 hk R3 E3 ⟨back, ?_, back, ?_, ?_⟩
    · intro e' l' Hb' Hn ad' σn hn Rn En sn
      exact d.nx _ _ _ _ _ _ hn Rn En ((s1.trans s4).trans sn)
    · intro v sv l' Hb' Hn ad' hn Rn sn rn
      exact d.rt _ _ _ _ _ _ hn Rn ((s1.trans s4).trans sn) rn
    · intro x e' l' cls dx Hb' Hn ad' σn hn Rn En sn xr
      exact d.z _ _ _ _ _ _ _ _ _ hn Rn En ((s1.trans s4).trans sn) xr
  · have e : i = items.length := by omega
    subst e
    exact .inl ⟨io.stop _ Hx (sx.base.trans Rx.ext) (Nat.le_refl _), d.nx _ _ _ _ _ _ (fin _ _ ii) Rx Ex (s1.trans sx)⟩
theorem ss_while (c : T) (sl : List Nat) {body : PD.Ss} (hb : SSs pr n body) : SS pr n (.while_ c sl body) := by
  intro me X W st env L K Hb H ad σ D C tk po mh h R E d
  cases st <;> first | exact Bool.noConfusion mh | skip
  rename_i ec sb els pos
  rcases els with _ | ⟨_, _⟩ <;> first | exact Bool.noConfusion mh | skip
  have mh : (mT pr c me ec && mSs pr body me sb) = true := mh
  simp only [Bool.and_eq_true] at mh
  obtain ⟨m1, m3⟩ := mh
  unfold wpS at h
  obtain ⟨I, ⟨m0, i0⟩, turn⟩ := h
  have len0 : ad.length = L.length := R.len
  obtain ⟨Hb2, R2, E2, s2⟩ := nrm_ok (pr := pr) sl len0 Stp.refl R E
  refine wS.by (ps_while po wT.pt wSs.pss) ?_
  refine ⟨fun m σ' Hx => ∃ env' L' Hbx, I m env' L' ∧ Rel pr.G Hbx Hx ad L' ∧ EnvR pr.G Hbx ad env' σ' ∧ Stp Hb H ad Hbx Hx ad, ⟨m0, _, _, Hb2, i0, R2, E2, s2⟩, ?_⟩
  rintro m σ' Hx ⟨env', L', Hbx, ii, Rx, Ex, sx⟩
  have t := turn m env' L' ii
  refine snd_T c C tk m1 t Rx Ex ((d.step sx).Z Ex) fun b l1 Hb3 H3 ad3 hh R3 s3 => ?_
  cases b with
  | false => rw [if_neg Bool.false_ne_true]; exact d.nx _ _ _ _ _ _ (hh.2 rfl) R3 (Ex.step s3) (sx.trans s3)
  | true =>
    rw [if_pos rfl]
    refine ⟨fun σn Hn => ∃ m', m' < m ∧ ∃ env' L' Hbx, I m' env' L' ∧ Rel pr.G Hbx Hn ad L' ∧ EnvR pr.G Hbx ad env' σn ∧ Stp Hb H ad Hbx Hn ad, fun _ _ p => p, ?_⟩
    have s4 := sx.trans s3
    have back : ∀ (e' : Env) (l' : Tab) (Hb' Hn : Hp) (ad' : List Addr) (σn : St), (∃ m', m' < m ∧ I m' (nrmE sl L.length e' l') (nrmT sl L.length e' l')) → Rel pr.G Hb' Hn ad' l' → EnvR pr.G Hb' ad' e' σn → Stp Hb3 H3 ad3 Hb' Hn ad' →
        ∃ m', m' < m ∧ ∃ env' L' Hbx, I m' env' L' ∧ Rel pr.G Hbx Hn ad L' ∧ EnvR pr.G Hbx ad env' σn ∧ Stp Hb H ad Hbx Hn ad := fun e' l' Hb' Hn ad' σn hn Rn En sn => by
      obtain ⟨m', hlt, hn⟩ := hn
      obtain ⟨Hb5, R5, E5, s5⟩ := nrm_ok (pr := pr) sl len0 (s4.trans sn) Rn En
      exact ⟨m', hlt, _, _, Hb5, hn, R5, E5, s5⟩
    refine hb C tk po m3 (hh.1 rfl) R3 (Ex.step s3) ⟨back, ?_, back, ?_, ?_⟩
    · intro e' l' Hb' Hn ad' σn hn Rn En sn
      exact d.nx _ _ _ _ _ _ hn Rn En (s4.trans sn)
    · intro v sv l' Hb' Hn ad' hn Rn sn rn
      exact d.rt _ _ _ _ _ _ hn Rn (s4.trans sn) rn
    · intro x e' l' cls dx Hb' Hn ad' σn hn Rn En sn xr
      exact d.z _ _ _ _ _ _ _ _ _ hn Rn En (s4.trans sn) xr
theorem ss_raise (c : Nat) (as : Es) : SS pr n (.raise c as) := by
  intro me X W st env L K Hb H ad σ D C tk po mh h R E d
  unfold wpS at h
  exact h.elim
theorem ss_frz (i : Nat) : SS pr n (.frz i) := by
  intro me X W st env L K Hb H ad σ D C tk po mh h R E d
  cases st <;> exact Bool.noConfusion mh
theorem sss_nil : SSs pr n .nil := by
  intro me X W sts env L K Hb H ad σ D C tk po mh h R E d
  cases sts with
  | cons _ _ => exact Bool.noConfusion mh
  | nil =>
    unfold wpSs at h
    exact wSs.by pss_nil (d.nx _ _ _ _ _ _ h R E Stp.refl)
theorem sss_cons {s : PD.S} {ss : PD.Ss} (hs : SS pr n s) (hss : SSs pr n ss) : SSs pr n (.cons s ss) := by
  intro me X W sts env L K Hb H ad σ D C tk po mh h R E d
  unfold wpSs at h
  have gen : ∀ st sts', sts = st :: sts' → (mS pr s me st && mSs pr ss me sts') = true → wSs X sts D σ H := fun st sts' e m => by
    subst e
    simp only [Bool.and_eq_true] at m
    refine wSs.by (pss_cons wS.ps wSs.pss) ?_
    exact hs C tk po m.1 h R E ⟨fun env' L' Hb' H' ad' σ' hn R' E' s' => hss C tk po m.2 hn R' E' (d.step s'), d.bk, d.ct, d.rt, d.z⟩
  cases s
  case frz i =>
    unfold wpS at h
    obtain ⟨Hb2, R2, E2, s2⟩ := frzSlots_ok (pr := pr) (H := H) [i] R E
    have mh : mSs pr ss me sts = true := mh
    exact hss C tk po mh h R2 E2 (d.step s2)
  all_goals
    cases sts with
    | nil => exact Bool.noConfusion mh
    | cons st sts' => exact gen st sts' rfl mh
mutual
theorem snd_S : ∀ a : PD.S, SS pr n a
  | .asg (.v i) e => ss_asg i e
  | .asg (.t is) e => ss_unpack is e
  | .own i e => ss_own i e
  | .par i j a b => ss_par i j a b
  | .aug i op e => ss_aug i op e
  | .setix x i e => ss_setix x i e
  | .setk x i => ss_setk x i
  | .append x e => ss_append x e
  | .extend x e => ss_extend x e
  | .ret e => ss_ret e
  | .retO e => ss_retO e
  | .never => ss_never
  | .retN => ss_retN
  | .ife c a b => ss_ife c (snd_Ss a) (snd_Ss b)
  | .for_ tg it sl body => ss_for tg it sl (snd_Ss body)
  | .while_ c sl body => ss_while c sl (snd_Ss body)
  | .raise c as => ss_raise c as
  | .expr e => ss_expr e
  | .frz i => ss_frz i
  | .pass => ss_pass
theorem snd_Ss : ∀ a : PD.Ss, SSs pr n a
  | .nil => sss_nil
  | .cons s ss => sss_cons (snd_S s) (snd_Ss ss)
end
end
end PD

namespace PD
open PySem L2
theorem startE_ok {G : Gs} {Hb : Hp} {F : Fn} {ds : List PD.D} {vs : List V} {N : List Str} (r : RepL G Hb vs ds) (h1 : F.slots = N.length) (h2 : ds.length = F.params) (h3 : F.params ≤ N.length) : EnvR G Hb [] (startE F ds) (L2.start N vs) := by
  have hl := r.length
  refine ⟨by simp [startE, L2.start, h1, ← h2, hl], fun i sv h => ?_⟩
  unfold startE at h
  unfold L2.start
  by_cases hi : i < ds.length
  · rw [List.getElem?_append_left (by simpa using hi), List.getElem?_map] at h
    rw [List.getElem?_append_left (by simpa [hl] using hi), List.getElem?_map]
    cases q : ds[i]? with
    | none => rw [q] at h; cases h
    | some x =>
      rw [q] at h
      cases h
      obtain ⟨v, e1, e2⟩ := r.get q
      exact ⟨v, by rw [e1]; rfl, e2⟩
  · rw [List.getElem?_append_right (by simpa using hi)] at h
    simp [List.getElem?_replicate] at h
structure DefIn (P : Program) (K : PySem.W.Frag) (mg : Str → Option Value) (pr : Pr) (f : Nat) (F : Fn) (x qual : Str) (params : Arguments) (body : List Stmt) (scope : Scope) (N : List Str) (a : Addr) (fd : FuncData) : Prop where
  g : mg (pr.nm f) = some (.ref a)
  fu : FunD K x qual params body scope [] [] a fd
  bi : Binds K fd (pr.ps f) []
  sc : FnScope N (pr.ps f) scope
  sl : F.slots = N.length
  pl : F.params = (pr.ps f).length
  m : mSs pr F.body ⟨N, scope, fun _ => true⟩ body = true
section
variable {P : Program} {w : World} {K : PySem.W.Frag} {mg : Str → Option Value} {base : Heap} {pr : Pr}
theorem body_ok {n : Nat} {f : Nat} {F : Fn} {x qual : Str} {params : Arguments} {body : List Stmt} {scope : Scope} {N : List Str} {a : Addr} {fd : FuncData} (hK : pr.G.K = K) (hF : pr.fn f = some F) (I : DefIn P K mg pr f F x qual params body scope N a fd)
    (fns : ∀ f F, pr.fn f = some F → ∃ a fd, mg (pr.nm f) = some (.ref a) ∧ PySem.W.keepIn K (.ref a) = true ∧ Binds K fd (pr.ps f) [] ∧ FnOk P w K mg base (L2.CX P w) n a fd (pr.ps f) (spF pr.G (wpF pr.fn pr.gc n) f))
    (blt : ∀ x ∈ bltNames, mg x = none) (gcs : ∀ k, k < pr.gcn → ∃ u v, mg (pr.gn k) = some u ∧ RelV v u ∧ ∀ Hb, Rep pr.G Hb v (pr.gc k)) :
    FnOk P w K mg base (L2.CX P w) (n + 1) a fd (pr.ps f) (spF pr.G (wpF pr.fn pr.gc (n + 1)) f) := by
  subst hK
  have hpl : F.params ≤ N.length := by
    have q := congrArg List.length I.sc.pre
    rw [List.length_take] at q
    rw [I.pl]; omega
  refine I.fu.ok I.sc (fun vs H Q E h => ?_) (fun cdv A outer s H vs Q E hr h => ?_)
  · obtain ⟨ds, Hb, k, z, h, _, r, _⟩ := h
    unfold wpF at h
    rw [hF] at h
    rw [r.length, h.1, I.pl]
  · obtain ⟨ds, Hb, k, z, h, sm, r, hQ, hE⟩ := h
    unfold wpF at h
    rw [hF] at h
    obtain ⟨hl, h⟩ := h
    let X : Cx := cxOf (L2.CX P w) P w pr.G.K mg base N qual scope a cdv A outer s H E
    have C : Ctx pr n ⟨N, scope, fun _ => true⟩ X := ⟨rfl, rfl, rfl, I.sc.nd, rfl, hr, fun _ _ => rfl, fns, blt, gcs⟩
    have tk : Takes X (fun cls d _ H => E cls d H) := L2.takes_of rfl rfl rfl rfl
    have po : PassesOwn (model X.prog X.w) X.A X.env X.xe := L2.passes_of rfl
    have R0 : Rel pr.G Hb H [] [] := ⟨sm, rfl, List.nodup_nil, fun j ds a h => by simp at h, fun a h => by simp at h, fun j x a h => by simp at h⟩
    have same : ∀ {Hb' H' : Hp} {ad' : List Addr}, Stp Hb H [] Hb' H' ad' → Same H H' := fun s a o h => s.keep a o h (by simp)
    have bas : ∀ {Hb' H' : Hp} {ad' : List Addr}, Stp Hb H [] Hb' H' ad' → ∀ a, Hb a = none → Hb' a ≠ none → H a = none := fun s a h1 h2 => (s.bas a h1 h2).resolve_right (by simp)
    refine ⟨wSs X body, wSs.pss, ?_⟩
    refine snd_Ss F.body C tk po I.m h R0 (startE_ok r I.sl hl hpl) ⟨?_, ?_, ?_, ?_, ?_⟩
    · intro env' L' Hb' H' ad' σ' hn R E s
      exact hQ (.v .non) .non Hb' H' hn s.base (same s) R.ext (bas s) .non
    · intro env' L' Hb' H' ad' σ' hn R E s
      exact hn.elim
    · intro env' L' Hb' H' ad' σ' hn R E s
      exact hn.elim
    · intro v sv L' Hb' H' ad' hn R s rs
      cases sv with
      | d x => exact hQ (.v x) v Hb' H' hn s.base (same s) R.ext (bas s) rs
      | c j =>
        obtain ⟨b, e1, rfl⟩ := id rs
        have hn : (match L'[j]? with
          | some (.lst ds) => match F.own with
            | true => k (.new ds)
            | false => k (.v (.lst ds))
          | some (.ob u) => k (.v u)
          | some (.fz x) => k (.v x)
          | none => False) := hn
        cases q : L'[j]? with
        | none => rw [q] at hn; exact hn.elim
        | some ct =>
          rw [q] at hn
          cases ct with
          | fz x => exact hQ (.v x) _ Hb' H' hn s.base (same s) R.ext (bas s) (R.fz j x b q e1)
          | ob u =>
            obtain ⟨Hb2, R2, s2, r2⟩ := R.freeze rs (den_c q)
            have s3 := s.trans s2
            exact hQ (.v u) _ Hb2 H' hn s3.base (same s3) R2.ext (bas s3) r2
          | lst es =>
            cases ho : F.own with
            | true =>
              simp only [ho] at hn
              obtain ⟨k0, ws, k1, k2⟩ := R.cell j es b q e1
              obtain ⟨ns, rfl, hns⟩ := s.new
              exact hQ (.new es) _ Hb' H' hn s.base (same s) R.ext (bas s) ⟨b, ws, rfl, hns b (List.mem_of_getElem? e1), k0, k1, k2⟩
            | false =>
              simp only [ho] at hn
              obtain ⟨Hb2, R2, s2, r2⟩ := R.freeze rs (den_c q)
              have s3 := s.trans s2
              exact hQ (.v (.lst es)) _ Hb2 H' hn s3.base (same s3) R2.ext (bas s3) r2
    · intro x env' L' cls d Hb' H' ad' σ' hn R E s xr
      exact hE x cls d H' hn (same s) xr
/-- all of a program's defs, at all depths -/
theorem defs_ok (hK : pr.G.K = K) (all : ∀ f F, pr.fn f = some F → ∃ x qual params body scope N a fd, DefIn P K mg pr f F x qual params body scope N a fd)
    (blt : ∀ x ∈ bltNames, mg x = none) (gcs : ∀ k, k < pr.gcn → ∃ u v, mg (pr.gn k) = some u ∧ RelV v u ∧ ∀ Hb, Rep pr.G Hb v (pr.gc k)) :
    ∀ n f F, pr.fn f = some F → ∃ a fd, mg (pr.nm f) = some (.ref a) ∧ PySem.W.keepIn K (.ref a) = true ∧ Binds K fd (pr.ps f) [] ∧ FnOk P w K mg base (L2.CX P w) n a fd (pr.ps f) (spF pr.G (wpF pr.fn pr.gc n) f) := by
  intro n
  induction n with
  | zero =>
    intro f F hF
    obtain ⟨x, qual, params, body, scope, N, a, fd, I⟩ := all f F hF
    refine ⟨a, fd, I.g, I.fu.kp, I.bi, ⟨fun vs H Q E h => ?_, fun A outer s H args us vs Q E _ _ _ _ h => ?_⟩⟩
    · obtain ⟨ds, Hb, k, z, h, _⟩ := h
      exact h.elim
    · obtain ⟨ds, Hb, k, z, h, _⟩ := h
      exact h.elim
  | succ n ih =>
    intro f F hF
    obtain ⟨x, qual, params, body, scope, N, a, fd, I⟩ := all f F hF
    exact ⟨a, fd, I.g, I.fu.kp, I.bi, body_ok hK hF I ih blt gcs⟩
end
/-- the law's own call -/
theorem lawW {l : PySem.W.OpenLaw} {m k : Nat} {q : Program} {loose : List Str} {XP : (Str → Option Value) → Heap → Prop} {YP : World → Heap → Prop} {d : DefRec} {x : Str} (hn : l.most = some m) (hm : m ≤ sizeLine) (hdf : d.params.defaults = []) (hr : Room k callerA)
    (F : ∀ (w : World) (mg : Str → Option Value) (fa : Addr) (h : Heap), YP w h → h.Ns mainGlobals mg → mg d.name = some (.ref fa) → ∃ (pr : Pr) (f : Nat) (fd : FuncData), pr.G.K.In h ∧ (∀ (s : Shared) (u : Value), BindsTo s fd ⟨[u], []⟩ [(x, u)]) ∧
      (∀ base : Heap, pr.G.K.In base → base.Ns mainGlobals mg → FnOk l.prog w pr.G.K mg base (L2.CX l.prog w) k fa fd [x] (spF pr.G (wpF pr.fn pr.gc k) f)) ∧
      ∀ ns : List Int, ns.length ≤ m → (∀ z ∈ ns, Builtin.Int.intBits z ≤ 1048576) → wpF pr.fn pr.gc k f [.scr ns] (fun r => r = .v (.bl true)) (fun _ => False)) :
    PySem.W.WalkO q loose XP YP l.row.toRowW d [] (fun f vs => PySem.call f vs) := by
  refine Att.attach_callB hn hdf ?_
  intro w s₀ s₁ mg mb fa o pm cd doc a vs ns G Y ho hd hcd hmg hobj hints hlen hbits hg
  obtain ⟨pr, f, fd, KX, hb, hF, hw⟩ := F w mg fa _ Y G.T.g hmg
  refine law_call KX G.T.g G.T.b G.T.builtins G.T.nolimit hg hobj hints (Nat.le_trans hlen hm) hr hF hb ?_ ?_
  · intro H hO hS
    refine ⟨[.scr ns], H, fun r => r = .v (.bl true), fun _ => False, hw ns hlen hbits, Same.refl _, .cons (.scr hS) .nil, ?_, fun _ _ _ _ h => h.elim⟩
    intro r v Hb' H' hk _ _ _ _ hB
    subst hk
    cases (show Rep pr.G Hb' v (.bl true) from hB)
    rfl
  · intro H e s' h
    obtain ⟨a, B, H', cls, d, _, _, _, _, _, _, _, hE⟩ := h
    exact hE
end PD

namespace PD
open PySem L2
/-! ## plain helpers -/
abbrev iL (xs : List Int) : List D := xs.map D.int
theorem toPys_ints : ∀ xs : List Int, toPys (iL xs) = xs.map PyData.int
  | [] => rfl
  | x :: xs => by simp only [iL, List.map_cons, toPys, toPy]; rw [← toPys_ints xs]
theorem pures_ints : ∀ xs : List Int, pures (iL xs) = true
  | [] => rfl
  | x :: xs => by simp only [iL, List.map_cons, pures, D.pure, Bool.true_and]; exact pures_ints xs
theorem lay_ints : ∀ xs : List Int, PyData.canLayAll0 (xs.map PyData.int) = true
  | [] => by unfold PyData.canLayAll0; rfl
  | x :: xs => by rw [List.map_cons]; unfold PyData.canLayAll0; rw [lay_ints xs]; unfold PyData.canLay0; rfl
theorem dep_ints : ∀ xs : List Int, PyData.depthAll (xs.map PyData.int) = 0
  | [] => by unfold PyData.depthAll; rfl
  | x :: xs => by rw [List.map_cons]; unfold PyData.depthAll; rw [dep_ints xs]; unfold PyData.depth; rfl
theorem eqv_ints : ∀ xs ys : List Int, PyData.eqvAll (xs.map PyData.int) (ys.map PyData.int) = decide (xs = ys)
  | [], [] => by simp [PyData.eqvAll]
  | [], _ :: _ => by simp [PyData.eqvAll]
  | _ :: _, [] => by simp [PyData.eqvAll]
  | x :: xs, y :: ys => by
    rw [List.map_cons, List.map_cons, PyData.eqvAll, eqv_ints xs ys, PyData.eqv]
    by_cases h : x = y <;> by_cases h2 : xs = ys <;> simp [h, h2]
theorem shaped_ints (xs : List Int) : SeqAt.shaped (toPy (.lst (iL xs))) = true := by
  rw [toPy, toPys_ints]
  unfold SeqAt.shaped
  rw [PyData.canLay0, lay_ints, PyData.depth, dep_ints]
  rfl
theorem eq_ints {xs ys : List Int} {k : Bool → Prop} (h : k (decide (xs = ys))) : eqD (.lst (iL xs)) (.lst (iL ys)) k := by
  have e : eqD (.lst (iL xs)) (.lst (iL ys)) k = ((D.lst (iL xs)).pure = true ∧ (D.lst (iL ys)).pure = true ∧ SeqAt.shaped (toPy (.lst (iL xs))) = true ∧ SeqAt.shaped (toPy (.lst (iL ys))) = true ∧ k (PyData.eqv (toPy (.lst (iL xs))) (toPy (.lst (iL ys))))) := rfl
  rw [e]
  refine ⟨by unfold D.pure; exact pures_ints xs, by unfold D.pure; exact pures_ints ys, shaped_ints xs, shaped_ints ys, ?_⟩
  rw [toPy, toPy, toPys_ints, toPys_ints, PyData.eqv, eqv_ints]
  exact h
theorem get_ints {xs : List Int} {i : Nat} : (iL xs)[i]? = (xs[i]?).map D.int := by simp [iL]
theorem len_ints {xs : List Int} : (iL xs).length = xs.length := by simp [iL]
theorem app_ints {xs : List Int} {x : Int} : iL xs ++ [D.int x] = iL (xs ++ [x]) := by simp [iL]
theorem atI_ints {xs : List Int} {i : Int} : atI (iL xs) i = (atI xs i).map D.int := by
  unfold atI
  rw [len_ints]
  cases ixN xs.length i with
  | none => rfl
  | some k => exact get_ints
theorem sizeLine_big {n : Nat} (h : n ≤ 16777216) : n ≤ sizeLine := by rw [sizeLine_eq]; exact h
theorem sizeLine_lt {n : Nat} (h : n < 16777216) : n < sizeLine := by rw [sizeLine_eq]; exact h
/-- mod, with the divisor's size -/
theorem divOk_of {j : Int} (h : 0 < j) (h2 : j < 2 ^ 64) : divOk j := by
  refine ⟨h, ?_⟩
  by_cases z : j.natAbs = 0
  · rw [z]; decide
  · have : j.natAbs.log2 < 64 := (Nat.log2_lt z).mpr (by omega)
    omega
theorem cpow_of {i j : Int} (h : 0 ≤ j) (h2 : j ≤ 1000000) (h3 : i.natAbs < 2 ^ 64) : CPow i j := ⟨h, h2, h3⟩
theorem isr_ok {ns : List Int} {i : Nat} (h : i < ns.length) : atI ns (i : Int) = some ns[i] := by
  unfold atI ixN
  simp [h]
theorem eq_ii {i j : Int} {k : Bool → Prop} : eqD (.int i) (.int j) k = k (i == j) := rfl
theorem eq_bb {i j : Bool} {k : Bool → Prop} : eqD (.bl i) (.bl j) k = k (i == j) := rfl
theorem eq_ss {i j : Str} {k : Bool → Prop} : eqD (.str i) (.str j) k = k (i == j) := rfl
theorem eq_nn {k : Bool → Prop} : eqD .non .non k = k true := rfl
theorem cut_take {α : Type} {xs : List α} {i : Nat} : cutL xs none (some (i : Int)) = xs.take i := by
  unfold cutL
  rw [HT.sIx_none, HT.sIx_nat, List.drop_zero, Nat.sub_zero]
  by_cases h : i ≤ xs.length
  · rw [Nat.min_eq_left h]
  · rw [Nat.min_eq_right (by omega), List.take_length, List.take_of_length_le (by omega)]
theorem cut_drop {α : Type} {xs : List α} {i : Nat} : cutL xs (some (i : Int)) none = xs.drop i := by
  unfold cutL
  rw [HT.sIx_none, HT.sIx_nat]
  by_cases h : i ≤ xs.length
  · rw [Nat.min_eq_left h, List.take_of_length_le (by simp)]
  · rw [Nat.min_eq_right (by omega), List.drop_of_length_le (Nat.le_refl _), List.drop_of_length_le (by omega)]; simp
theorem cut_init {α : Type} {xs : List α} : cutL xs none (some (-1)) = xs.take (xs.length - 1) := by
  unfold cutL
  rw [HT.sIx_none, List.drop_zero, Nat.sub_zero]
  have e : HT.sIx xs.length xs.length (some (-1)) = xs.length - 1 := by
    show (if (-1 : Int) < 0 then (-1 + (xs.length : Int)).toNat else min (-1 : Int).toNat xs.length) = xs.length - 1
    rw [if_pos (by decide)]; omega
  rw [e]
theorem getl {α : Type} {xs : List α} {i : Nat} {w : α} (h : xs[i]? = some w) : atI xs (i : Int) = some w := by
  unfold atI ixN
  have hi : i < xs.length := (List.getElem?_eq_some_iff.mp h).1
  rw [if_pos (by omega), if_pos (by omega)]
  exact h
theorem rng_it {n i : Nat} {x : D} (h : ((List.range n).map fun i => D.int ((i : Nat) : Int))[i]? = some x) : i < n ∧ x = .int (i : Int) := by
  obtain ⟨hi, e⟩ := List.getElem?_eq_some_iff.mp h
  simp at hi e
  exact ⟨hi, e.symm⟩
theorem rng_len {n : Nat} : ((List.range n).map fun i => D.int ((i : Nat) : Int)).length = n := by simp
theorem lst_it {xs : List Int} {i : Nat} {x : D} (h : (iL xs)[i]? = some x) : ∃ w, xs[i]? = some w ∧ x = .int w := by
  rw [get_ints] at h
  cases q : xs[i]? with
  | none => rw [q] at h; cases h
  | some w => rw [q] at h; exact ⟨w, rfl, (Option.some.inj h).symm⟩
theorem enu_it {xs : List Int} {i : Nat} {x : D} (h : ((iL xs).zipIdx.map fun p => D.tup [.int ((p.2 : Nat) : Int), p.1])[i]? = some x) : ∃ w, xs[i]? = some w ∧ x = .tup [.int (i : Int), .int w] := by
  simp [List.getElem?_map, List.getElem?_zipIdx] at h
  obtain ⟨a, h1, h2⟩ := h
  exact ⟨a, h1, by rw [← h2]⟩
theorem gcd_flip {a b m : Int} : Int.gcd (a - b) m = Int.gcd (b - a) m := by
  rw [← Int.neg_sub b a, Int.neg_gcd]
theorem atI_pos {α : Type} {xs : List α} {i : Int} (h0 : 0 ≤ i) (h1 : i < xs.length) : atI xs i = xs[i.toNat]? := by
  have e : i = ((i.toNat : Nat) : Int) := by omega
  have hl : i.toNat < xs.length := by omega
  rw [List.getElem?_eq_getElem hl]
  conv => lhs; rw [e]
  exact getl (List.getElem?_eq_getElem hl)
theorem atI_in {α : Type} {xs : List α} {i : Int} (h0 : 0 ≤ i) (h1 : i < xs.length) : ∃ q, atI xs i = some q := by
  rw [atI_pos h0 h1, List.getElem?_eq_getElem (by omega)]
  exact ⟨_, rfl⟩
section
variable {m : Bool} {L : Tab} {k : KV}
theorem r_int {i : Int} : resK m L k (.int i) = k (.d (.int i)) L := rfl
theorem r_bl {i : Bool} : resK m L k (.bl i) = k (.d (.bl i)) L := rfl
theorem r_str {i : Str} : resK m L k (.str i) = k (.d (.str i)) L := rfl
theorem r_non : resK m L k .non = k (.d .non) L := rfl
theorem r_tup {i : List D} : resK m L k (.tup i) = k (.d (.tup i)) L := rfl
theorem r_lstf {i : List D} : resK false L k (.lst i) = k (.d (.lst i)) L := rfl
theorem r_lstt {i : List D} : resK true L k (.lst i) = k (.c L.length) (L ++ [.lst i]) := rfl
theorem r_v {x : D} : rsK m L k (.v x) = k (.d x) L := rfl
theorem r_newf {i : List D} : rsK false L k (.new i) = k (.d (.lst i)) L := rfl
theorem r_newt {i : List D} : rsK true L k (.new i) = k (.c L.length) (L ++ [.lst i]) := rfl
theorem m_f {i : List D} : mkL false i L k = k (.d (.lst i)) L := rfl
theorem m_t {i : List D} : mkL true i L k = k (.c L.length) (L ++ [.lst i]) := rfl
end
theorem log_of {i : Int} {a : Nat} (h : i.natAbs < 2 ^ a) : i.natAbs.log2 ≤ a := by
  by_cases z : i.natAbs = 0
  · rw [z]; exact Nat.zero_le _
  · exact Nat.le_of_lt ((Nat.log2_lt z).mpr h)
theorem mul_of {i j : Int} (a b : Nat) (h1 : i.natAbs < 2 ^ a) (h2 : j.natAbs < 2 ^ b) (h : a + b < 1000000) : mulOk i j := .inr (by
  have l1 := log_of h1
  have l2 := log_of h2
  show i.natAbs.log2 + j.natAbs.log2 < 1000000
  omega)
theorem fl_bl {b : Bool} : D.flat (.bl b) = true := rfl
theorem fl_int {b : Int} : D.flat (.int b) = true := rfl
theorem fl_str {b : Str} : D.flat (.str b) = true := rfl
theorem fl_non : D.flat .non = true := rfl
theorem fl_rs {x : D} : Rs.flat (.v x) = x.flat := rfl
theorem o_add {i j : Int} {k : D → Prop} : opB .add (.int i) (.int j) k = (k (.int (i + j))) := rfl
theorem o_adds {s t : Str} {k : D → Prop} : opB .add (.str s) (.str t) k = (s.length + t.length ≤ sizeLine ∧ k (.str (s ++ t))) := rfl
theorem o_addl {a b : List D} {k : D → Prop} : opB .add (.lst a) (.lst b) k = (a.length + b.length ≤ sizeLine ∧ k (.lst (a ++ b))) := rfl
theorem o_addt {a b : List D} {k : D → Prop} : opB .add (.tup a) (.tup b) k = (a.length + b.length ≤ sizeLine ∧ k (.tup (a ++ b))) := rfl
theorem n_join {a : Str} {ds : List D} {k : D → Prop} : bmD .join a [.lst ds] k = (∃ ys : List Str, ds = ys.map .str ∧ (ys.map (·.length)).sum + ys.length * a.length ≤ 16777216 ∧ k (.str (Txt.join a ys))) := rfl
theorem n_split {a b : Str} {k : D → Prop} : bmD .split a [.str b] k = ((b.length == 0) = false ∧ a.length + 2 ≤ sizeLine ∧ k (.lst ((Txt.split a b).map .str))) := rfl
theorem n_index {a b : Str} {k : D → Prop} : bmD .index a [.str b] k = (∃ i rest, Builtin.Str.occurrences a b 0 a.length 1 = i :: rest ∧ k (.int ((i : Nat) : Int))) := rfl
theorem n_find {a b : Str} {k : D → Prop} : bmD .find a [.str b] k = k (.int (Txt.find a b)) := rfl
theorem o_sub {i j : Int} {k : D → Prop} : opB .sub (.int i) (.int j) k = (k (.int (i - j))) := rfl
theorem o_mul {i j : Int} {k : D → Prop} : opB .mul (.int i) (.int j) k = (mulOk i j ∧ k (.int (i * j))) := rfl
theorem o_rep {a : List D} {n : Int} {k : D → Prop} : opB .mul (.lst a) (.int n) k = (n < 2 ^ 62 ∧ -(2 ^ 62) < n ∧ a.length * n.toNat ≤ sizeLine ∧ k (.lst (List.replicate n.toNat a).flatten)) := rfl
theorem o_div {i j : Int} {k : D → Prop} : opB .fdiv (.int i) (.int j) k = (divOk j ∧ k (.int (i / j))) := rfl
theorem o_mod {i j : Int} {k : D → Prop} : opB .mod (.int i) (.int j) k = (0 < j ∧ k (.int (i % j))) := rfl
theorem o_pow {i j : Int} {k : D → Prop} : opB .pow (.int i) (.int j) k = (CPow i j ∧ k (.int (i ^ j.toNat))) := rfl
theorem c_lt {i j : Int} {k : Bool → Prop} : cmpD .lt (.int i) (.int j) k = (k (decide (i < j))) := rfl
theorem c_le {i j : Int} {k : Bool → Prop} : cmpD .le (.int i) (.int j) k = (k (decide (i ≤ j))) := rfl
theorem c_gt {i j : Int} {k : Bool → Prop} : cmpD .gt (.int i) (.int j) k = (k (decide (j < i))) := rfl
theorem c_ge {i j : Int} {k : Bool → Prop} : cmpD .ge (.int i) (.int j) k = (k (decide (j ≤ i))) := rfl
theorem c_lts {i j : Str} {k : Bool → Prop} : cmpD .lt (.str i) (.str j) k = (k (decide (i.cps.toList < j.cps.toList))) := rfl
theorem c_eq {x y : D} {k : Bool → Prop} : cmpD .eq x y k = (eqD x y k) := rfl
theorem c_ne {x y : D} {k : Bool → Prop} : cmpD .ne x y k = (eqD x y fun b => k (!b)) := rfl
theorem c_is {x y : D} {k : Bool → Prop} : cmpD .is x y k = (isD x y k) := rfl
theorem c_isnot {x y : D} {k : Bool → Prop} : cmpD .isnot x y k = (isD x y fun b => k (!b)) := rfl
theorem c_in {x y : D} {k : Bool → Prop} : cmpD .isin x y k = (inD x y k) := rfl
theorem c_notin {x y : D} {k : Bool → Prop} : cmpD .notin x y k = (inD x y fun b => k (!b)) := rfl
theorem t_bl {b : Bool} {k : Bool → Prop} : truD (.bl b) k = (k b) := rfl
theorem t_non {k : Bool → Prop} : truD .non k = (k false) := rfl
theorem t_int {i : Int} {k : Bool → Prop} : truD (.int i) k = (k (i != 0)) := rfl
theorem t_lst {ds : List D} {k : Bool → Prop} : truD (.lst ds) k = (k (!ds.isEmpty)) := rfl
theorem t_tup {ds : List D} {k : Bool → Prop} : truD (.tup ds) k = (k (!ds.isEmpty)) := rfl
theorem x_lst {ds : List D} {i : Int} {k : D → Prop} : idxD (.lst ds) (.int i) k = (∃ v, atI ds i = some v ∧ k v) := rfl
theorem x_tup {ds : List D} {i : Int} {k : D → Prop} : idxD (.tup ds) (.int i) k = (∃ v, atI ds i = some v ∧ k v) := rfl
theorem x_scr {ns : List Int} {i : Int} {k : D → Prop} : idxD (.scr ns) (.int i) k = (∃ v, atI ns i = some v ∧ k (.int v)) := rfl
theorem x_str {s : Str} {i : Int} {k : D → Prop} : idxD (.str s) (.int i) k = (∃ c, s.length ≤ sizeLine ∧ atI s.cps.toList i = some c ∧ k (.str ⟨#[c]⟩)) := rfl
theorem u_lst {ds : List D} {lo hi : Option Int} {k : D → Prop} : cutD (.lst ds) lo hi k = (k (.lst (cutL ds lo hi))) := rfl
theorem u_scr {ns : List Int} {lo hi : Option Int} {k : D → Prop} : cutD (.scr ns) lo hi k = (k (.lst ((cutL ns lo hi).map .int))) := rfl
theorem u_str {s : Str} {lo hi : Option Int} {k : D → Prop} : cutD (.str s) lo hi k = (s.length ≤ sizeLine ∧ k (.str (cutS s lo hi))) := rfl
theorem b_lenl {ds : List D} {k : D → Prop} : biD .len [.lst ds] k = (k (.int ds.length)) := rfl
theorem b_lent {ds : List D} {k : D → Prop} : biD .len [.tup ds] k = (k (.int ds.length)) := rfl
theorem b_lenc {ns : List Int} {k : D → Prop} : biD .len [.scr ns] k = (k (.int ns.length)) := rfl
theorem b_lens {s : Str} {k : D → Prop} : biD .len [.str s] k = (s.length ≤ sizeLine ∧ k (.int s.length)) := rfl
theorem b_abs {i : Int} {k : D → Prop} : biD .abs [.int i] k = (k (.int (if i < 0 then -i else i))) := rfl
theorem b_max2 {i j : Int} {k : D → Prop} : biD .max2 [.int i, .int j] k = (k (.int (if j > i then j else i))) := rfl
theorem b_min2 {i j : Int} {k : D → Prop} : biD .min2 [.int i, .int j] k = (k (.int (if j < i then j else i))) := rfl
theorem b_tup {ds : List D} {k : D → Prop} : biD .tuple [.lst ds] k = k (.tup ds) := rfl
theorem b_srtk {ks : List Int} {k : D → Prop} : biD .sorted [.kst ks] k = (ks.length < 64 ∧ ∀ ns' : List Int, ns'.Perm ks → ns'.Pairwise (· ≤ ·) → k (.lst (ns'.map .int))) := rfl
theorem dat_lst {ds : List D} : Ct.dat (.lst ds) = .lst ds := rfl
theorem dat_ob {u : D} : Ct.dat (.ob u) = u := rfl
theorem dat_fz {u : D} : Ct.dat (.fz u) = u := rfl
theorem b_int {i : Int} {k : D → Prop} : biD .int [.int i] k = (k (.int i)) := rfl
theorem b_inb {b : Bool} {k : D → Prop} : biD .int [.bl b] k = (k (.int (if b then 1 else 0))) := rfl
theorem p_non  : partD .non (.d .non) = (some none) := rfl
theorem i_lst {ds : List D} : D.items (.lst ds) = (some ds) := rfl
theorem i_tup {ds : List D} : D.items (.tup ds) = (some ds) := rfl
theorem i_scr {ns : List Int} : D.items (.scr ns) = (some (ns.map .int)) := rfl
theorem is_n {x : D} {k : Bool → Prop} : isD x .non k = (k x.isNon) := rfl
theorem is_b {a b : Bool} {k : Bool → Prop} : isD (.bl a) (.bl b) k = k (a == b) := rfl
end PD

namespace PD
open PySem L2
/-! ## texts -/
abbrev ch (c : Nat) : Str := ⟨#[c]⟩
abbrev sL (cs : List Nat) : Str := ⟨cs.toArray⟩
theorem len_sL {cs : List Nat} : (sL cs).length = cs.length := by show (cs.toArray).size = cs.length; simp
theorem list_sL {cs : List Nat} : (sL cs).cps.toList = cs := rfl
theorem join_chs : ∀ cs : List Nat, Txt.join ⟨#[]⟩ (cs.map ch) = sL cs
  | [] => rfl
  | c :: cs => by
    have e := join_chs cs
    rw [TL.join_eq] at e ⊢
    rw [List.map_cons, PyProof.Rows.join_nil_cons, e]
    show (⟨#[c] ++ cs.toArray⟩ : Str) = ⟨(c :: cs).toArray⟩
    congr 1
    apply Array.toList_inj.mp
    simp
theorem sub_ch {cs : List Nat} {c i : Nat} : Builtin.Str.subAt (sL cs) (ch c) i = true ↔ cs[i]? = some c := by
  show ((cs.toArray).extract i (i + 1) == #[c]) = true ↔ _
  rw [beq_iff_eq, ← Array.toList_inj]
  simp only [Array.toList_extract]
  rw [List.extract_eq_drop_take]
  simp only [Nat.add_sub_cancel_left]
  cases h : cs[i]? with
  | none =>
    have hl := List.getElem?_eq_none_iff.mp h
    rw [List.drop_of_length_le (by simpa using hl)]
    simp
  | some x =>
    have hl := (List.getElem?_eq_some_iff.mp h).1
    have e : (cs.drop i).take 1 = [x] := by
      have hx := (List.getElem?_eq_some_iff.mp h).2
      rw [List.drop_eq_getElem_cons hl, hx]
      rfl
    simp [e]
theorem at_ch {cs : List Nat} {c i : Nat} : StrLaws.At (sL cs) (ch c) (sL cs).length i ↔ cs[i]? = some c := by
  constructor
  · intro h
    exact sub_ch.mp h.2
  · intro h
    have hl := (List.getElem?_eq_some_iff.mp h).1
    exact ⟨by rw [len_sL]; exact hl, sub_ch.mpr h⟩
theorem nodup_at {cs : List Nat} (hn : cs.Nodup) {i j : Nat} {c : Nat} (h : cs[i]? = some c) (h' : cs[j]? = some c) : i = j := by
  obtain ⟨h1, e1⟩ := List.getElem?_eq_some_iff.mp h
  obtain ⟨h2, e2⟩ := List.getElem?_eq_some_iff.mp h'
  exact (List.getElem_inj hn).mp (e1.trans e2.symm)
theorem idx_ch {cs : List Nat} (hn : cs.Nodup) {i c : Nat} (h : cs[i]? = some c) : ∃ rest, Builtin.Str.occurrences (sL cs) (ch c) 0 (sL cs).length 1 = i :: rest := by
  rcases StrLaws.occ_head (sL cs) (ch c) 1 (Nat.le_refl _) with ⟨_, no⟩ | ⟨j, r, e, a, _⟩
  · exact absurd (at_ch.mpr h) (no i)
  · have q := at_ch.mp a
    rw [nodup_at hn q h] at e
    exact ⟨r, e⟩
theorem empty_str : (("" : Str)) = ⟨#[]⟩ := rfl
theorem az_str : (("abcdefghijklmnopqrstuvwxyz" : Str)) = sL ((List.range 26).map (97 + ·)) := by decide +kernel
end PD

namespace K03
open PySem L2 PD
def top (i : Nat) : Stmt := PySem.Challenge.pw_cablehouse_k03_pairs_a_fault_apart.main.body.getD i (.Pass ⟨0, 0, 0, 0⟩)
/-- divisor: 0 one 1 other -/
def b0_0 : PD.T := (.cmp .ne (.var 1) (.int 0))
def b0_1 : PD.Ss := (.cons (.par 0 1 (.var 1) (.bin .mod (.var 0) (.var 1)))
    .nil)
def b0 : PD.Ss := (.cons (.while_ b0_0 [] b0_1)
    (.cons (.ret (.bi .abs (.cons (.var 0) .nil)))
    .nil))
def f0 : PD.Fn := ⟨2, 2, b0, false⟩
/-- fits_behind: 0 weights 1 weight 2 m -/
def b1 : PD.Ss := (.cons (.ife (.cmp .ne (.call 0 (.cons (.var 1) (.cons (.var 2) .nil))) (.int 1))
    (.cons (.ret (.bl false))
    .nil)
    .nil)
    (.cons (.ret (.or (.cmp .eq (.var 0) (.lst .nil)) (.cmp .eq (.call 0 (.cons (.bin .sub (.idx (.var 0) (.neg (.int 1))) (.var 1)) (.cons (.var 2) .nil))) (.int 1))))
    .nil))
def f1 : PD.Fn := ⟨3, 3, b1, false⟩
/-- are_safe: 0 weights 1 m 2 k 3 weight -/
def b2_0 : PD.Ss := (.cons (.ife (.not (.val (.call 1 (.cons (.slc (.var 0) .non (.var 2)) (.cons (.var 3) (.cons (.var 1) .nil))))))
    (.cons (.ret (.bl false))
    .nil)
    .nil)
    .nil)
def b2 : PD.Ss := (.cons (.for_ (.t [2, 3]) (.enum (.var 0)) [] b2_0)
    (.cons (.ret (.bl true))
    .nil))
def f2 : PD.Fn := ⟨4, 2, b2, false⟩
/-- reached: 0 weights 1 m 2 found 3 weight 4 some 5 left 6 place -/
def b3_0 : PD.Ss := (.cons (.setk 4 (.bin .mod (.bin .add (.var 5) (.bin .mul (.var 3) (.var 6))) (.var 1)))
    .nil)
def b3_1 : PD.Ss := (.cons (.for_ (.v 6) (.range1 (.var 1)) [] b3_0)
    .nil)
def b3_2 : PD.Ss := (.cons (.own 4 .edict)
    (.cons (.for_ (.v 5) (.seq (.idx (.var 2) (.int 0))) [] b3_1)
    (.cons (.asg (.v 2) (.bin .add (.lst (.cons (.bi .sorted (.cons (.var 4) .nil)) .nil)) (.var 2)))
    .nil)))
def b3 : PD.Ss := (.cons (.asg (.v 2) (.lst (.cons (.lst (.cons (.int 0) .nil)) .nil)))
    (.cons (.for_ (.v 3) (.reversed (.var 0)) [4] b3_2)
    (.cons (.ret (.var 2))
    .nil)))
def f3 : PD.Fn := ⟨7, 2, b3, false⟩
/-- first_good: 0 weights 1 rest 2 m 3 ways 4 left 5 found 6 k 7 weight 8 some 9 place -/
def b4_0 : PD.Ts := (.cons (.cmp .isin (.bin .mod (.bin .sub (.var 4) (.bin .mul (.var 7) (.var 9))) (.var 2)) (.idx (.var 3) (.bin .add (.var 6) (.int 1)))) .nil)
def b4_1 : PD.E := (.var 9)
def b4_2 : PD.Ss := (.cons (.asg (.v 8) (.comp (.v 9) (.range1 (.var 2)) b4_1 b4_0))
    (.cons (.asg (.v 4) (.bin .mod (.bin .sub (.var 4) (.bin .mul (.var 7) (.idx (.var 8) (.int 0)))) (.var 2)))
    (.cons (.append 5 (.idx (.var 8) (.int 0)))
    .nil)))
def b4_3 : PD.Ss := (.cons (.own 5 (.lst .nil))
    (.cons (.for_ (.t [6, 7]) (.enum (.var 0)) [] b4_2)
    (.cons (.ret (.var 5))
    .nil)))
def b4 : PD.Ss := (.cons (.asg (.v 3) (.call 3 (.cons (.var 0) (.cons (.var 2) .nil))))
    (.cons (.asg (.v 4) (.bin .mod (.var 1) (.var 2)))
    (.cons (.ife (.cmp .notin (.var 4) (.idx (.var 3) (.int 0)))
    (.cons (.ret .non)
    .nil)
    .nil)
    b4_3)))
def f4 : PD.Fn := ⟨10, 3, b4, false⟩
/-- shared_part: 0 number 1 m 2 part -/
def b5_0 : PD.Ss := (.cons (.ife (.cmp .eq (.bin .mod (.bin .mul (.var 0) (.var 2)) (.var 1)) (.int 0))
    (.cons (.ret (.var 2))
    .nil)
    .nil)
    .nil)
def b5 : PD.Ss := (.cons (.for_ (.v 2) (.range2 (.int 1) (.var 1)) [] b5_0)
    (.cons (.ret (.int 0))
    .nil))
def f5 : PD.Fn := ⟨3, 2, b5, false⟩
/-- exchanged_pair: 0 weights 1 rest 2 m 3 first 4 k 5 weight 6 part -/
def b6_0 : PD.Ss := (.cons (.asg (.v 6) (.call 5 (.cons (.var 5) (.cons (.var 2) .nil))))
    (.cons (.ife (.and (.cmp .gt (.var 6) (.int 0)) (.cmp .isnot (.var 3) .non))
    (.cons (.ret (.tup (.cons (.var 3) (.cons (.bin .add (.bin .add (.slc (.var 3) .non (.var 4)) (.lst (.cons (.bin .mod (.bin .add (.idx (.var 3) (.var 4)) (.var 6)) (.var 2)) .nil))) (.slc (.var 3) (.bin .add (.var 4) (.int 1)) .non)) .nil))))
    .nil)
    .nil)
    .nil))
def b6 : PD.Ss := (.cons (.asg (.v 3) (.call 4 (.cons (.var 0) (.cons (.var 1) (.cons (.var 2) .nil)))))
    (.cons (.for_ (.t [4, 5]) (.enum (.var 0)) [] b6_0)
    (.cons (.ret .non)
    .nil)))
def f6 : PD.Fn := ⟨7, 3, b6, false⟩
/-- swapped_pair: 0 weights 1 rest 2 m 3 k 4 part 5 places 6 other 7 p -/
def b7_0 : PD.Ts := (.cons (.cmp .eq (.bin .mod (.bin .sub (.bin .add (.bin .mul (.idx (.var 0) (.var 6)) (.var 7)) (.bin .mul (.idx (.var 0) (.var 3)) (.var 4))) (.var 1)) (.var 2)) (.int 0)) .nil)
def b7_1 : PD.E := (.var 7)
def b7_2 : PD.Ss := (.cons (.own 5 (.bin .mul (.lst (.cons (.int 0) .nil)) (.bi .len (.cons (.var 0) .nil))))
    (.cons (.setix 5 (.var 3) (.var 4))
    (.cons (.asg (.v 6) (.bin .mod (.bin .add (.var 3) (.int 2)) (.bi .len (.cons (.var 0) .nil))))
    (.cons (.setix 5 (.var 6) (.idx (.comp (.v 7) (.range1 (.var 2)) b7_1 b7_0) (.int 0)))
    (.cons (.ret (.tup (.cons (.var 5) (.cons (.bin .add (.bin .add (.slc (.var 5) .non (.var 3)) (.lst (.cons (.idx (.var 5) (.bin .add (.var 3) (.int 1))) (.cons (.idx (.var 5) (.var 3)) .nil)))) (.slc (.var 5) (.bin .add (.var 3) (.int 2)) .non)) .nil))))
    .nil)))))
def b7_3 : PD.Ss := (.cons (.asg (.v 4) (.call 5 (.cons (.bin .sub (.idx (.var 0) (.var 3)) (.idx (.var 0) (.bin .add (.var 3) (.int 1)))) (.cons (.var 2) .nil))))
    (.cons (.ife (.cmp .gt (.var 4) (.int 0))
    b7_2
    .nil)
    .nil))
def b7 : PD.Ss := (.cons (.for_ (.v 3) (.range1 (.bin .sub (.bi .len (.cons (.var 0) .nil)) (.int 1))) [5] b7_3)
    (.cons (.ret .non)
    .nil))
def f7 : PD.Fn := ⟨8, 3, b7, false⟩
/-- unsafe_pair: 0 alphabet 1 weights 2 rest 3 m 4 pair 5 weight 6 places 7 place -/
def b8_0 : PD.E := (.call 5 (.cons (.var 5) (.cons (.var 3) .nil)))
def b8_1 : PD.E := (.idx (.var 0) (.var 7))
def b8_2 : PD.E := (.bm .join (.str "") (.cons (.comp (.v 7) (.seq (.var 6)) b8_1 .nil) .nil))
def b8_3 : PD.Ss := (.cons (.ret (.bi .tuple (.cons (.comp (.v 6) (.seq (.var 4)) b8_2 .nil) .nil)))
    .nil)
def b8_4 : PD.Ss := (.cons (.ife (.cmp .is (.var 4) .non)
    (.cons (.ret .non)
    .nil)
    .nil)
    b8_3)
def b8_5 : PD.Ss := (.cons (.ife (.cmp .gt (.bi .max1 (.cons (.comp (.v 5) (.seq (.var 1)) b8_0 .nil) .nil)) (.int 0))
    (.cons (.asg (.v 4) (.call 6 (.cons (.var 1) (.cons (.var 2) (.cons (.var 3) .nil)))))
    .nil)
    (.cons (.asg (.v 4) (.call 7 (.cons (.var 1) (.cons (.var 2) (.cons (.var 3) .nil)))))
    .nil))
    b8_4)
def b8 : PD.Ss := (.cons (.asg (.v 3) (.bi .len (.cons (.var 0) .nil)))
    (.cons (.asg (.v 4) .non)
    (.cons (.ife (.val (.call 2 (.cons (.var 1) (.cons (.var 3) .nil))))
    (.cons (.ret .non)
    .nil)
    .nil)
    b8_5)))
def f8 : PD.Fn := ⟨8, 3, b8, false⟩
/-- _law_cell_at: 0 _law_script 1 _law_k -/
def b9 : PD.Ss := (.cons (.ife (.cmp .lt (.var 1) (.bi .len (.cons (.var 0) .nil)))
    (.cons (.ret (.idx (.var 0) (.var 1)))
    .nil)
    .nil)
    (.cons (.ret (.int 0))
    .nil))
def f9 : PD.Fn := ⟨2, 2, b9, false⟩
/-- _law_mixed: 0 _law_cell 1 _law_many -/
def b10 : PD.Ss := (.cons (.asg (.v 1) (.int 314159265358979323846264338327950288419716939937510582097494))
    (.cons (.ret (.bin .mod (.bin .add (.bin .mul (.bin .mod (.var 0) (.bin .pow (.int 10) (.int 60))) (.var 1)) (.int 27182818284590452353602874713527)) (.bin .add (.bin .pow (.int 10) (.int 60)) (.int 7))))
    .nil))
def f10 : PD.Fn := ⟨2, 1, b10, false⟩
/-- _law_alphabet: 0 _law_cell 1 _law_some 2 _law_many 3 _law_step 4 _law_k -/
def b11_0 : PD.E := (.idx (.var 1) (.bin .mod (.bin .add (.bin .fdiv (.var 0) (.int 9000)) (.bin .mul (.var 3) (.var 4))) (.int 26)))
def b11_1 : PD.Ss := (.cons (.asg (.v 3) (.idx (.lst (.cons (.int 1) (.cons (.int 25) (.cons (.int 3) (.cons (.int 5) (.cons (.int 7) (.cons (.int 9) (.cons (.int 11) (.cons (.int 15) (.cons (.int 17) .nil)))))))))) (.bin .mod (.bin .fdiv (.var 0) (.int 1000)) (.int 9))))
    (.cons (.ret (.bm .join (.str "") (.cons (.comp (.v 4) (.range1 (.var 2)) b11_0 .nil) .nil)))
    .nil))
def b11 : PD.Ss := (.cons (.asg (.v 1) (.str "abcdefghijklmnopqrstuvwxyz"))
    (.cons (.asg (.v 2) (.idx (.lst (.cons (.int 3) (.cons (.int 5) (.cons (.int 7) (.cons (.int 9) (.cons (.int 11) (.cons (.int 15) (.cons (.int 21) (.cons (.int 25) (.cons (.int 26) (.cons (.int 4) (.cons (.int 6) (.cons (.int 13) .nil))))))))))))) (.bin .mod (.var 0) (.int 12))))
    (.cons (.ife (.cmp .eq (.bin .mod (.bin .fdiv (.var 0) (.int 12)) (.int 3)) (.int 0))
    (.cons (.asg (.v 2) (.bin .add (.int 3) (.bin .mod (.bin .fdiv (.var 0) (.int 36)) (.int 24))))
    .nil)
    .nil)
    b11_1)))
def f11 : PD.Fn := ⟨5, 1, b11, false⟩
/-- _law_apart: 0 _law_number 1 _law_m -/
def b12_0 : PD.T := (.cmp .ne (.var 1) (.int 0))
def b12_1 : PD.Ss := (.cons (.par 0 1 (.var 1) (.bin .mod (.var 0) (.var 1)))
    .nil)
def b12 : PD.Ss := (.cons (.while_ b12_0 [] b12_1)
    (.cons (.ret (.cmp .eq (.bi .abs (.cons (.var 0) .nil)) (.int 1)))
    .nil))
def f12 : PD.Fn := ⟨2, 2, b12, false⟩
/-- _law_safe: 0 _law_weights_here 1 _law_m 2 _law_k -/
def b13_0 : PD.Ss := (.cons (.ife (.or (.not (.val (.call 12 (.cons (.idx (.var 0) (.var 2)) (.cons (.var 1) .nil))))) (.and (.cmp .gt (.var 2) (.int 0)) (.not (.val (.call 12 (.cons (.bin .sub (.idx (.var 0) (.var 2)) (.idx (.var 0) (.bin .sub (.var 2) (.int 1)))) (.cons (.var 1) .nil)))))))
    (.cons (.ret (.bl false))
    .nil)
    .nil)
    .nil)
def b13 : PD.Ss := (.cons (.for_ (.v 2) (.range1 (.bi .len (.cons (.var 0) .nil))) [] b13_0)
    (.cons (.ret (.bl true))
    .nil))
def f13 : PD.Fn := ⟨3, 2, b13, false⟩
/-- _law_weights: 0 _law_cell 1 _law_m 2 _law_many 3 _law_found 4 _law_k 5 _law_some 6 _law_w -/
def b14_0 : PD.Ts := (.cons (.and (.val (.call 12 (.cons (.var 6) (.cons (.var 1) .nil)))) (.or (.cmp .eq (.var 4) (.int 0)) (.val (.call 12 (.cons (.bin .sub (.var 6) (.idx (.var 3) (.bin .sub (.var 4) (.int 1)))) (.cons (.var 1) .nil)))))) .nil)
def b14_1 : PD.E := (.var 6)
def b14_2 : PD.Ss := (.cons (.asg (.v 5) (.comp (.v 6) (.range1 (.var 1)) b14_1 b14_0))
    (.cons (.ife (.cmp .eq (.var 5) (.lst .nil))
    (.cons (.asg (.v 5) (.mkrange (.var 1)))
    .nil)
    .nil)
    (.cons (.append 3 (.idx (.var 5) (.bin .mod (.var 0) (.bi .len (.cons (.var 5) .nil)))))
    (.cons (.asg (.v 0) (.bin .fdiv (.var 0) (.int 7)))
    .nil))))
def b14 : PD.Ss := (.cons (.own 3 (.lst .nil))
    (.cons (.for_ (.v 4) (.range1 (.var 2)) [] b14_2)
    (.cons (.ret (.var 3))
    .nil)))
def f14 : PD.Fn := ⟨7, 3, b14, true⟩
/-- _law_digits: 0 _law_number 1 _law_m 2 _law_many 3 _law_found 4 _law_k -/
def b15_0 : PD.Ss := (.cons (.append 3 (.bin .mod (.var 0) (.var 1)))
    (.cons (.asg (.v 0) (.bin .fdiv (.var 0) (.int 31)))
    .nil))
def b15 : PD.Ss := (.cons (.own 3 (.lst .nil))
    (.cons (.for_ (.v 4) (.range1 (.var 2)) [] b15_0)
    (.cons (.ret (.var 3))
    .nil)))
def f15 : PD.Fn := ⟨5, 3, b15, true⟩
/-- _law_some_weights: 0 _law_cell 1 _law_m 2 _law_number 3 _law_weights_here 4 _law_at -/
def b16_0 : PD.Ss := (.cons (.ife (.cmp .eq (.bin .mod (.bin .fdiv (.var 2) (.int 6)) (.int 4)) (.int 2))
    (.cons (.own 3 (.call 15 (.cons (.bin .fdiv (.var 2) (.int 100)) (.cons (.var 1) (.cons (.bi .len (.cons (.var 3) .nil)) .nil)))))
    .nil)
    .nil)
    (.cons (.ife (.and (.cmp .eq (.bin .mod (.bin .fdiv (.var 2) (.int 6)) (.int 4)) (.int 3)) (.cmp .eq (.bin .mod (.bin .fdiv (.var 2) (.int 24)) (.int 2)) (.int 1)))
    (.cons (.own 3 (.bin .mul (.lst (.cons (.bin .mod (.bin .fdiv (.var 2) (.int 48)) (.var 1)) .nil)) (.bi .len (.cons (.var 3) .nil))))
    .nil)
    .nil)
    (.cons (.ret (.var 3))
    .nil)))
def b16 : PD.Ss := (.cons (.asg (.v 2) (.call 10 (.cons (.var 0) .nil)))
    (.cons (.own 3 (.call 14 (.cons (.bin .fdiv (.var 2) (.int 100)) (.cons (.var 1) (.cons (.bin .add (.int 3) (.bin .mod (.var 2) (.int 6))) .nil)))))
    (.cons (.ife (.cmp .eq (.bin .mod (.bin .fdiv (.var 2) (.int 6)) (.int 4)) (.int 1))
    (.cons (.asg (.v 4) (.bin .mod (.bin .fdiv (.var 2) (.int 24)) (.bi .len (.cons (.var 3) .nil))))
    (.cons (.setix 3 (.var 4) (.bin .mod (.bin .fdiv (.var 2) (.int 200)) (.var 1)))
    .nil))
    .nil)
    b16_0)))
def f16 : PD.Fn := ⟨5, 2, b16, false⟩
/-- _law_sum: 0 _law_weights_here 1 _law_places 2 _law_found 3 _law_k -/
def b17_0 : PD.Ss := (.cons (.asg (.v 2) (.bin .add (.var 2) (.bin .mul (.idx (.var 0) (.var 3)) (.idx (.var 1) (.var 3)))))
    .nil)
def b17 : PD.Ss := (.cons (.asg (.v 2) (.int 0))
    (.cons (.for_ (.v 3) (.range1 (.bi .len (.cons (.var 0) .nil))) [] b17_0)
    (.cons (.ret (.var 2))
    .nil)))
def f17 : PD.Fn := ⟨4, 2, b17, false⟩
/-- _law_common: 0 _law_weights_here 1 _law_m 2 _law_weight -/
def b18_0 : PD.T := (.cmp .ne (.var 2) (.int 0))
def b18_1 : PD.Ss := (.cons (.par 1 2 (.var 2) (.bin .mod (.var 1) (.var 2)))
    .nil)
def b18_2 : PD.Ss := (.cons (.while_ b18_0 [] b18_1)
    .nil)
def b18 : PD.Ss := (.cons (.for_ (.v 2) (.seq (.var 0)) [] b18_2)
    (.cons (.ret (.var 1))
    .nil))
def f18 : PD.Fn := ⟨3, 2, b18, false⟩
/-- _law_is_good: 0 _law_alphabet_here 1 _law_weights_here 2 _law_rest 3 _law_word 4 _law_places 5 _law_letter -/
def b19_0 : PD.E := (.bm .find (.var 0) (.cons (.var 5) .nil))
def b19_1 : PD.Ss := (.cons (.asg (.v 4) (.comp (.v 5) (.seq (.var 3)) b19_0 .nil))
    (.cons (.ret (.and (.cmp .notin (.neg (.int 1)) (.var 4)) (.cmp .eq (.bin .mod (.bin .sub (.call 17 (.cons (.var 1) (.cons (.var 4) .nil))) (.var 2)) (.bi .len (.cons (.var 0) .nil))) (.int 0))))
    .nil))
def b19 : PD.Ss := (.cons (.ife (.or (.not (.val (.isi (.var 3) .str))) (.cmp .ne (.bi .len (.cons (.var 3) .nil)) (.bi .len (.cons (.var 1) .nil))))
    (.cons (.ret (.bl false))
    .nil)
    .nil)
    b19_1)
def f19 : PD.Fn := ⟨6, 4, b19, false⟩
/-- _law_one_fault: 0 _law_one 1 _law_other 2 _law_unlike 3 _law_k -/
def b20_0 : PD.Ts := (.cons (.cmp .ne (.idx (.var 0) (.var 3)) (.idx (.var 1) (.var 3))) .nil)
def b20_1 : PD.E := (.var 3)
def b20 : PD.Ss := (.cons (.asg (.v 2) (.comp (.v 3) (.range1 (.bi .len (.cons (.var 0) .nil))) b20_1 b20_0))
    (.cons (.ife (.cmp .eq (.bi .len (.cons (.var 2) .nil)) (.int 1))
    (.cons (.ret (.bl true))
    .nil)
    .nil)
    (.cons (.ife (.or (.cmp .ne (.bi .len (.cons (.var 2) .nil)) (.int 2)) (.cmp .ne (.idx (.var 2) (.int 1)) (.bin .add (.idx (.var 2) (.int 0)) (.int 1))))
    (.cons (.ret (.bl false))
    .nil)
    .nil)
    (.cons (.ret (.and (.cmp .eq (.idx (.var 0) (.idx (.var 2) (.int 0))) (.idx (.var 1) (.idx (.var 2) (.int 1)))) (.cmp .eq (.idx (.var 0) (.idx (.var 2) (.int 1))) (.idx (.var 1) (.idx (.var 2) (.int 0))))))
    .nil))))
def f20 : PD.Fn := ⟨4, 2, b20, false⟩
/-- law: 0 _law_script 1 _law_k 2 _law_alphabet_here 3 _law_m 4 _law_weights_here 5 _law_rest 6 _law_handed 7 _law_found -/
def b21_0 : PD.Ss := (.cons (.ife (.not (.val (.call 19 (.cons (.var 2) (.cons (.var 4) (.cons (.var 5) (.cons (.idx (.var 7) (.int 0)) .nil)))))))
    (.cons (.ret (.bl false))
    .nil)
    .nil)
    (.cons (.ife (.or (.not (.val (.call 19 (.cons (.var 2) (.cons (.var 4) (.cons (.var 5) (.cons (.idx (.var 7) (.int 1)) .nil))))))) (.not (.val (.call 20 (.cons (.idx (.var 7) (.int 0)) (.cons (.idx (.var 7) (.int 1)) .nil))))))
    (.cons (.ret (.bl false))
    .nil)
    .nil)
    .nil))
def b21_1 : PD.Ss := (.cons (.ife (.or (.not (.val (.isi (.var 7) .tuple))) (.cmp .ne (.bi .len (.cons (.var 7) .nil)) (.int 2)))
    (.cons (.ret (.bl false))
    .nil)
    .nil)
    b21_0)
def b21_2 : PD.Ss := (.cons (.ife (.or (.val (.call 13 (.cons (.var 4) (.cons (.var 3) .nil)))) (.cmp .ne (.bin .mod (.var 5) (.call 18 (.cons (.var 4) (.cons (.var 3) .nil)))) (.int 0)))
    (.cons (.ife (.cmp .isnot (.var 7) .non)
    (.cons (.ret (.bl false))
    .nil)
    .nil)
    .nil)
    b21_1)
    .nil)
def b21_3 : PD.Ss := (.cons (.asg (.v 6) (.mklist (.var 4)))
    (.cons (.asg (.v 7) (.call 8 (.cons (.var 2) (.cons (.var 6) (.cons (.var 5) .nil)))))
    (.cons (.ife (.cmp .ne (.var 6) (.var 4))
    (.cons (.ret (.bl false))
    .nil)
    .nil)
    b21_2)))
def b21_4 : PD.Ss := (.cons (.asg (.v 2) (.call 11 (.cons (.call 9 (.cons (.var 0) (.cons (.var 1) .nil))) .nil)))
    (.cons (.asg (.v 3) (.bi .len (.cons (.var 2) .nil)))
    (.cons (.asg (.v 4) (.call 16 (.cons (.bin .add (.bin .fdiv (.call 9 (.cons (.var 0) (.cons (.var 1) .nil))) (.int 3)) (.var 1)) (.cons (.var 3) .nil))))
    (.cons (.asg (.v 5) (.bin .mod (.call 10 (.cons (.bin .add (.bin .fdiv (.call 9 (.cons (.var 0) (.cons (.var 1) .nil))) (.int 7)) (.bin .mul (.int 11) (.var 1))) .nil)) (.var 3)))
    (.cons (.ife (.cmp .eq (.bin .mod (.bin .fdiv (.call 9 (.cons (.var 0) (.cons (.var 1) .nil))) (.int 5)) (.int 2)) (.int 1))
    (.cons (.asg (.v 5) (.bin .mod (.bin .mul (.var 5) (.call 18 (.cons (.var 4) (.cons (.var 3) .nil)))) (.var 3)))
    .nil)
    .nil)
    b21_3)))))
def b21 : PD.Ss := (.cons (.for_ (.v 1) (.range1 (.bi .min2 (.cons (.int 20) (.cons (.bi .max2 (.cons (.int 1) (.cons (.bi .len (.cons (.var 0) .nil)) .nil))) .nil)))) [] b21_4)
    (.cons (.ret (.bl true))
    .nil))
def f21 : PD.Fn := ⟨8, 1, b21, false⟩
def fnT : Nat → Option PD.Fn
  | 0 => some f0
  | 1 => some f1
  | 2 => some f2
  | 3 => some f3
  | 4 => some f4
  | 5 => some f5
  | 6 => some f6
  | 7 => some f7
  | 8 => some f8
  | 9 => some f9
  | 10 => some f10
  | 11 => some f11
  | 12 => some f12
  | 13 => some f13
  | 14 => some f14
  | 15 => some f15
  | 16 => some f16
  | 17 => some f17
  | 18 => some f18
  | 19 => some f19
  | 20 => some f20
  | 21 => some f21
  | _ => none
def gcT : Nat → PD.D
  | _ => .non
end K03

namespace K03
open PySem L2 PD
/-- all below m -/
def Lt (ws : List Int) (m : Int) : Prop := ∀ w ∈ ws, 0 ≤ w ∧ w < m
theorem Lt.nil {m : Int} : Lt [] m := fun w h => by simp at h
theorem Lt.snoc {ws : List Int} {m w : Int} (h : Lt ws m) (h0 : 0 ≤ w) (h1 : w < m) : Lt (ws ++ [w]) m := fun v hv => by
  rcases List.mem_append.mp hv with q | q
  · exact h v q
  · simp at q; subst q; exact ⟨h0, h1⟩
theorem Lt.set {ws : List Int} {m w : Int} {i : Nat} (h : Lt ws m) (h0 : 0 ≤ w) (h1 : w < m) : Lt (ws.set i w) m := fun v hv => by
  rcases List.mem_or_eq_of_mem_set hv with q | q
  · exact h v q
  · subst q; exact ⟨h0, h1⟩
theorem gcd_step {a b : Int} : Int.gcd b (a % b) = Int.gcd a b := by
  rw [Int.gcd_comm b, Int.emod_def, Int.sub_eq_add_neg]
  rw [show a + -(b * (a / b)) = a + b * (-(a / b)) by rw [Int.mul_neg]]
  simp [Int.gcd_add_mul_right_left, Int.gcd_add_mul_left_left]
theorem s_apart {n : Nat} {a m : Int} {k z} (hm : 0 < m) (h : k (.v (.bl (decide (Int.gcd a m = 1))))) : wpF fnT gcT (n+1) 12 [.int a, .int m] k z := by
  unfold wpF
  simp only [f12, b12, fnT, startE, List.length_cons, List.length_nil, List.map_cons, List.map_nil, List.cons_append, List.nil_append, Nat.sub_self, Nat.reduceSub, Nat.reduceAdd, Nat.reduceLT, List.replicate_zero, List.reduceReplicate, List.replicate_succ, wpSs, wpS, wpE, wpEs, wpT, wpI, wpC, List.getElem?_cons_zero, List.getElem?_cons_succ, List.getElem?_nil, den, dens, back, true_and, and_true, nrmE, nrmT, frzSlots, cutV1, frzT, frzL, eq_ii, eq_bb, eq_ss, eq_nn, D.isNon, o_add, o_adds, o_addl, o_sub, o_addt, n_split, n_find, o_mul, o_rep, o_div, o_mod, o_pow, c_lt, c_le, c_gt, c_ge, c_lts, c_eq, c_ne, c_is, c_isnot, c_in, c_notin, t_bl, t_non, t_int, t_lst, t_tup, x_lst, x_tup, x_scr, x_str, u_lst, u_scr, u_str, b_lenl, b_lent, b_lenc, b_lens, b_abs, b_max2, b_min2, b_int, b_inb, b_tup, b_srtk, i_lst, i_tup, i_scr, is_n, is_b, exists_eq_left', exists_eq_left, exists_eq_right, Option.some.injEq,  partD, setS, setAll, tgD, tgSlots, wipeE, List.set_cons_zero, List.set_cons_succ, List.set_nil, List.take_nil, List.take_zero, m_f, m_t, r_int, r_bl, r_str, r_non, r_tup, r_lstf, r_lstt, r_v, r_newf, r_newt, List.any_cons, List.any_nil, owned, Bool.or_false, Bool.false_or, fl_bl, fl_int, fl_str, fl_non, fl_rs, exists_eq', Ct.lst.injEq, Ct.ob.injEq, D.kst.injEq, List.take_succ_cons, dat_lst, dat_ob, dat_fz, Option.some.injEq, SV.d.injEq, D.int.injEq, forall_eq', reduceCtorEq, false_implies, forall_const, Bool.false_eq_true, List.set, if_true, if_false, Bool.not_true, Bool.not_false]
  refine ⟨fun c e l => l = [] ∧ ∃ x y : Int, e = [some (.d (.int x)), some (.d (.int y))] ∧ 0 ≤ y ∧ c = y.toNat ∧ Int.gcd x y = Int.gcd a m, ⟨_, rfl, a, m, rfl, Int.le_of_lt hm, rfl, rfl⟩, ?_⟩
  rintro c e l ⟨rfl, x, y, rfl, hy, rfl, hg⟩
  simp only [b12_0, b12_1, fnT, startE, List.length_cons, List.length_nil, List.map_cons, List.map_nil, List.cons_append, List.nil_append, Nat.sub_self, Nat.reduceSub, Nat.reduceAdd, Nat.reduceLT, List.replicate_zero, List.reduceReplicate, List.replicate_succ, wpSs, wpS, wpE, wpEs, wpT, wpI, wpC, List.getElem?_cons_zero, List.getElem?_cons_succ, List.getElem?_nil, den, dens, back, true_and, and_true, nrmE, nrmT, frzSlots, cutV1, frzT, frzL, eq_ii, eq_bb, eq_ss, eq_nn, D.isNon, o_add, o_adds, o_addl, o_sub, o_addt, n_split, n_find, o_mul, o_rep, o_div, o_mod, o_pow, c_lt, c_le, c_gt, c_ge, c_lts, c_eq, c_ne, c_is, c_isnot, c_in, c_notin, t_bl, t_non, t_int, t_lst, t_tup, x_lst, x_tup, x_scr, x_str, u_lst, u_scr, u_str, b_lenl, b_lent, b_lenc, b_lens, b_abs, b_max2, b_min2, b_int, b_inb, b_tup, b_srtk, i_lst, i_tup, i_scr, is_n, is_b, exists_eq_left', exists_eq_left, exists_eq_right, Option.some.injEq,  partD, setS, setAll, tgD, tgSlots, wipeE, List.set_cons_zero, List.set_cons_succ, List.set_nil, List.take_nil, List.take_zero, m_f, m_t, r_int, r_bl, r_str, r_non, r_tup, r_lstf, r_lstt, r_v, r_newf, r_newt, List.any_cons, List.any_nil, owned, Bool.or_false, Bool.false_or, fl_bl, fl_int, fl_str, fl_non, fl_rs, exists_eq', Ct.lst.injEq, Ct.ob.injEq, D.kst.injEq, List.take_succ_cons, dat_lst, dat_ob, dat_fz, Option.some.injEq, SV.d.injEq, D.int.injEq, forall_eq', reduceCtorEq, false_implies, forall_const, Bool.false_eq_true, List.set, if_true, if_false, Bool.not_true, Bool.not_false]
  refine ⟨fun h0 => ?_, fun h0 => ?_⟩
  · have y0 : y ≠ 0 := by simpa using h0
    have yp : 0 < y := by omega
    have l1 := Int.emod_lt_of_pos x yp
    have l2 := Int.emod_nonneg x y0
    exact ⟨yp, _, by omega, y, x % y, rfl, l2, rfl, by rw [gcd_step]; exact hg⟩
  · have y0 : y = 0 := by simpa using h0
    subst y0
    have e : ((if x < 0 then -x else x) == (1 : Int)) = decide (Int.gcd a m = 1) := by
      rw [← hg, Int.gcd_zero_right]
      by_cases q : x.natAbs = 1 <;> simp [q] <;> omega
    rw [e]
    exact h
theorem s_cell_at {n : Nat} {ns : List Int} {i : Nat} {k z} (h : k (.v (.int (ns[i]?.getD 0)))) : wpF fnT gcT (n+1) 9 [.scr ns, .int i] k z := by
  unfold wpF
  simp only [f9, b9, fnT, startE, List.length_cons, List.length_nil, List.map_cons, List.map_nil, List.cons_append, List.nil_append, Nat.sub_self, Nat.reduceSub, Nat.reduceAdd, Nat.reduceLT, List.replicate_zero, List.reduceReplicate, List.replicate_succ, wpSs, wpS, wpE, wpEs, wpT, wpI, wpC, List.getElem?_cons_zero, List.getElem?_cons_succ, List.getElem?_nil, den, dens, back, true_and, and_true, nrmE, nrmT, frzSlots, cutV1, frzT, frzL, eq_ii, eq_bb, eq_ss, eq_nn, D.isNon, o_add, o_adds, o_addl, o_sub, o_addt, n_split, n_find, o_mul, o_rep, o_div, o_mod, o_pow, c_lt, c_le, c_gt, c_ge, c_lts, c_eq, c_ne, c_is, c_isnot, c_in, c_notin, t_bl, t_non, t_int, t_lst, t_tup, x_lst, x_tup, x_scr, x_str, u_lst, u_scr, u_str, b_lenl, b_lent, b_lenc, b_lens, b_abs, b_max2, b_min2, b_int, b_inb, b_tup, b_srtk, i_lst, i_tup, i_scr, is_n, is_b, exists_eq_left', exists_eq_left, exists_eq_right, Option.some.injEq,  partD, setS, setAll, tgD, tgSlots, wipeE, List.set_cons_zero, List.set_cons_succ, List.set_nil, List.take_nil, List.take_zero, m_f, m_t, r_int, r_bl, r_str, r_non, r_tup, r_lstf, r_lstt, r_v, r_newf, r_newt, List.any_cons, List.any_nil, owned, Bool.or_false, Bool.false_or, fl_bl, fl_int, fl_str, fl_non, fl_rs, exists_eq', Ct.lst.injEq, Ct.ob.injEq, D.kst.injEq, List.take_succ_cons, dat_lst, dat_ob, dat_fz, Option.some.injEq, SV.d.injEq, D.int.injEq, forall_eq', reduceCtorEq, false_implies, forall_const, Bool.false_eq_true, List.set, if_true, if_false, Bool.not_true, Bool.not_false]
  refine ⟨fun h0 => ?_, fun h0 => ?_⟩
  · have hi : i < ns.length := by simp at h0; omega
    refine ⟨ns[i], getl (List.getElem?_eq_getElem hi), ?_⟩
    rw [List.getElem?_eq_getElem hi] at h
    exact h
  · have hi : ns.length ≤ i := by simp at h0; omega
    rw [List.getElem?_eq_none hi] at h
    exact h
theorem s_mixed {n : Nat} {c : Int} {k z} (h : ∀ i : Int, 0 ≤ i → i < 10 ^ 60 + 7 → k (.v (.int i))) : wpF fnT gcT (n+1) 10 [.int c] k z := by
  unfold wpF
  simp only [f10, b10, fnT, startE, List.length_cons, List.length_nil, List.map_cons, List.map_nil, List.cons_append, List.nil_append, Nat.sub_self, Nat.reduceSub, Nat.reduceAdd, Nat.reduceLT, List.replicate_zero, List.reduceReplicate, List.replicate_succ, wpSs, wpS, wpE, wpEs, wpT, wpI, wpC, List.getElem?_cons_zero, List.getElem?_cons_succ, List.getElem?_nil, den, dens, back, true_and, and_true, nrmE, nrmT, frzSlots, cutV1, frzT, frzL, eq_ii, eq_bb, eq_ss, eq_nn, D.isNon, o_add, o_adds, o_addl, o_sub, o_addt, n_split, n_find, o_mul, o_rep, o_div, o_mod, o_pow, c_lt, c_le, c_gt, c_ge, c_lts, c_eq, c_ne, c_is, c_isnot, c_in, c_notin, t_bl, t_non, t_int, t_lst, t_tup, x_lst, x_tup, x_scr, x_str, u_lst, u_scr, u_str, b_lenl, b_lent, b_lenc, b_lens, b_abs, b_max2, b_min2, b_int, b_inb, b_tup, b_srtk, i_lst, i_tup, i_scr, is_n, is_b, exists_eq_left', exists_eq_left, exists_eq_right, Option.some.injEq,  partD, setS, setAll, tgD, tgSlots, wipeE, List.set_cons_zero, List.set_cons_succ, List.set_nil, List.take_nil, List.take_zero, m_f, m_t, r_int, r_bl, r_str, r_non, r_tup, r_lstf, r_lstt, r_v, r_newf, r_newt, List.any_cons, List.any_nil, owned, Bool.or_false, Bool.false_or, fl_bl, fl_int, fl_str, fl_non, fl_rs, exists_eq', Ct.lst.injEq, Ct.ob.injEq, D.kst.injEq, List.take_succ_cons, dat_lst, dat_ob, dat_fz, Option.some.injEq, SV.d.injEq, D.int.injEq, forall_eq', reduceCtorEq, false_implies, forall_const, Bool.false_eq_true, List.set, if_true, if_false, Bool.not_true, Bool.not_false]
  have p : (0 : Int) < 10 ^ (60 : Int).toNat := by decide
  have l1 := Int.emod_lt_of_pos c p
  have l2 := Int.emod_nonneg c (Int.ne_of_gt p)
  have e : (10 : Int) ^ (60 : Int).toNat = 10 ^ 60 := rfl
  rw [e] at l1 l2 ⊢
  have q : (0 : Int) < 10 ^ 60 + 7 := by decide
  refine ⟨cpow_of (by decide) (by decide) (by decide), by decide, mul_of 200 200 ?_ (by decide) (by decide), cpow_of (by decide) (by decide) (by decide), q, h _ (Int.emod_nonneg _ (Int.ne_of_gt q)) (Int.emod_lt_of_pos _ q)⟩
  have : (10 : Int) ^ 60 < 2 ^ 200 := by decide
  have e2 : ((2 : Nat) ^ 200 : Int) = 2 ^ 200 := by decide
  omega
theorem s_digits {n : Nat} {c m : Int} {len : Nat} {k z} (hm : 0 < m) (hl : len ≤ 8) (h : ∀ ws : List Int, ws.length = len → Lt ws m → k (.new (iL ws))) : wpF fnT gcT (n+1) 15 [.int c, .int m, .int len] k z := by
  unfold wpF
  simp only [f15, b15, fnT, startE, List.length_cons, List.length_nil, List.map_cons, List.map_nil, List.cons_append, List.nil_append, Nat.sub_self, Nat.reduceSub, Nat.reduceAdd, Nat.reduceLT, List.replicate_zero, List.reduceReplicate, List.replicate_succ, wpSs, wpS, wpE, wpEs, wpT, wpI, wpC, List.getElem?_cons_zero, List.getElem?_cons_succ, List.getElem?_nil, den, dens, back, true_and, and_true, nrmE, nrmT, frzSlots, cutV1, frzT, frzL, eq_ii, eq_bb, eq_ss, eq_nn, D.isNon, o_add, o_adds, o_addl, o_sub, o_addt, n_split, n_find, o_mul, o_rep, o_div, o_mod, o_pow, c_lt, c_le, c_gt, c_ge, c_lts, c_eq, c_ne, c_is, c_isnot, c_in, c_notin, t_bl, t_non, t_int, t_lst, t_tup, x_lst, x_tup, x_scr, x_str, u_lst, u_scr, u_str, b_lenl, b_lent, b_lenc, b_lens, b_abs, b_max2, b_min2, b_int, b_inb, b_tup, b_srtk, i_lst, i_tup, i_scr, is_n, is_b, exists_eq_left', exists_eq_left, exists_eq_right, Option.some.injEq,  partD, setS, setAll, tgD, tgSlots, wipeE, List.set_cons_zero, List.set_cons_succ, List.set_nil, List.take_nil, List.take_zero, m_f, m_t, r_int, r_bl, r_str, r_non, r_tup, r_lstf, r_lstt, r_v, r_newf, r_newt, List.any_cons, List.any_nil, owned, Bool.or_false, Bool.false_or, fl_bl, fl_int, fl_str, fl_non, fl_rs, exists_eq', Ct.lst.injEq, Ct.ob.injEq, D.kst.injEq, List.take_succ_cons, dat_lst, dat_ob, dat_fz, Option.some.injEq, SV.d.injEq, D.int.injEq, forall_eq', reduceCtorEq, false_implies, forall_const, Bool.false_eq_true, List.set, if_true, if_false, Bool.not_true, Bool.not_false]
  refine ⟨Nat.zero_le _, by omega, by omega, fun i e l => ∃ c' ws x, e = [some (.d (.int c')), some (.d (.int m)), some (.d (.int len)), some (.c 0), x] ∧ l = [.lst (iL ws)] ∧ ws.length = i ∧ Lt ws m, ⟨c, [], none, rfl, rfl, rfl, Lt.nil⟩, ?_, ?_⟩
  · rintro i x e l hx ⟨c', ws, x', rfl, rfl, hw, hL⟩
    obtain ⟨hi, rfl⟩ := rng_it hx
    rw [Int.toNat_natCast] at hi
    simp only [b15_0, fnT, startE, List.length_cons, List.length_nil, List.map_cons, List.map_nil, List.cons_append, List.nil_append, Nat.sub_self, Nat.reduceSub, Nat.reduceAdd, Nat.reduceLT, List.replicate_zero, List.reduceReplicate, List.replicate_succ, wpSs, wpS, wpE, wpEs, wpT, wpI, wpC, List.getElem?_cons_zero, List.getElem?_cons_succ, List.getElem?_nil, den, dens, back, true_and, and_true, nrmE, nrmT, frzSlots, cutV1, frzT, frzL, eq_ii, eq_bb, eq_ss, eq_nn, D.isNon, o_add, o_adds, o_addl, o_sub, o_addt, n_split, n_find, o_mul, o_rep, o_div, o_mod, o_pow, c_lt, c_le, c_gt, c_ge, c_lts, c_eq, c_ne, c_is, c_isnot, c_in, c_notin, t_bl, t_non, t_int, t_lst, t_tup, x_lst, x_tup, x_scr, x_str, u_lst, u_scr, u_str, b_lenl, b_lent, b_lenc, b_lens, b_abs, b_max2, b_min2, b_int, b_inb, b_tup, b_srtk, i_lst, i_tup, i_scr, is_n, is_b, exists_eq_left', exists_eq_left, exists_eq_right, Option.some.injEq,  partD, setS, setAll, tgD, tgSlots, wipeE, List.set_cons_zero, List.set_cons_succ, List.set_nil, List.take_nil, List.take_zero, m_f, m_t, r_int, r_bl, r_str, r_non, r_tup, r_lstf, r_lstt, r_v, r_newf, r_newt, List.any_cons, List.any_nil, owned, Bool.or_false, Bool.false_or, fl_bl, fl_int, fl_str, fl_non, fl_rs, exists_eq', Ct.lst.injEq, Ct.ob.injEq, D.kst.injEq, List.take_succ_cons, dat_lst, dat_ob, dat_fz, Option.some.injEq, SV.d.injEq, D.int.injEq, forall_eq', reduceCtorEq, false_implies, forall_const, Bool.false_eq_true, List.set, if_true, if_false, Bool.not_true, Bool.not_false]
    refine ⟨hm, sizeLine_lt (by rw [len_ints]; omega), divOk_of (by decide) (by decide), _, _, _, rfl, by rw [app_ints], by simp [hw], hL.snoc (Int.emod_nonneg _ (by omega)) (Int.emod_lt_of_pos _ hm)⟩
  · rintro e l ⟨c', ws, x', rfl, rfl, hw, hL⟩
    simp only [fnT, startE, List.length_cons, List.length_nil, List.map_cons, List.map_nil, List.cons_append, List.nil_append, Nat.sub_self, Nat.reduceSub, Nat.reduceAdd, Nat.reduceLT, List.replicate_zero, List.reduceReplicate, List.replicate_succ, wpSs, wpS, wpE, wpEs, wpT, wpI, wpC, List.getElem?_cons_zero, List.getElem?_cons_succ, List.getElem?_nil, den, dens, back, true_and, and_true, nrmE, nrmT, frzSlots, cutV1, frzT, frzL, eq_ii, eq_bb, eq_ss, eq_nn, D.isNon, o_add, o_adds, o_addl, o_sub, o_addt, n_split, n_find, o_mul, o_rep, o_div, o_mod, o_pow, c_lt, c_le, c_gt, c_ge, c_lts, c_eq, c_ne, c_is, c_isnot, c_in, c_notin, t_bl, t_non, t_int, t_lst, t_tup, x_lst, x_tup, x_scr, x_str, u_lst, u_scr, u_str, b_lenl, b_lent, b_lenc, b_lens, b_abs, b_max2, b_min2, b_int, b_inb, b_tup, b_srtk, i_lst, i_tup, i_scr, is_n, is_b, exists_eq_left', exists_eq_left, exists_eq_right, Option.some.injEq,  partD, setS, setAll, tgD, tgSlots, wipeE, List.set_cons_zero, List.set_cons_succ, List.set_nil, List.take_nil, List.take_zero, m_f, m_t, r_int, r_bl, r_str, r_non, r_tup, r_lstf, r_lstt, r_v, r_newf, r_newt, List.any_cons, List.any_nil, owned, Bool.or_false, Bool.false_or, fl_bl, fl_int, fl_str, fl_non, fl_rs, exists_eq', Ct.lst.injEq, Ct.ob.injEq, D.kst.injEq, List.take_succ_cons, dat_lst, dat_ob, dat_fz, Option.some.injEq, SV.d.injEq, D.int.injEq, forall_eq', reduceCtorEq, false_implies, forall_const, Bool.false_eq_true, List.set, if_true, if_false, Bool.not_true, Bool.not_false]
    exact h ws (by rw [hw, rng_len, Int.toNat_natCast]) hL
theorem s_weights {n : Nat} {c m : Int} {len : Nat} {k z} (hm : 0 < m) (hm2 : m ≤ 26) (hl : len ≤ 8) (h : ∀ ws : List Int, ws.length = len → Lt ws m → k (.new (iL ws))) : wpF fnT gcT (n+2) 14 [.int c, .int m, .int len] k z := by
  unfold wpF
  simp only [f14, b14, fnT, startE, List.length_cons, List.length_nil, List.map_cons, List.map_nil, List.cons_append, List.nil_append, Nat.sub_self, Nat.reduceSub, Nat.reduceAdd, Nat.reduceLT, List.replicate_zero, List.reduceReplicate, List.replicate_succ, wpSs, wpS, wpE, wpEs, wpT, wpI, wpC, List.getElem?_cons_zero, List.getElem?_cons_succ, List.getElem?_nil, den, dens, back, true_and, and_true, nrmE, nrmT, frzSlots, cutV1, frzT, frzL, eq_ii, eq_bb, eq_ss, eq_nn, D.isNon, o_add, o_adds, o_addl, o_sub, o_addt, n_split, n_find, o_mul, o_rep, o_div, o_mod, o_pow, c_lt, c_le, c_gt, c_ge, c_lts, c_eq, c_ne, c_is, c_isnot, c_in, c_notin, t_bl, t_non, t_int, t_lst, t_tup, x_lst, x_tup, x_scr, x_str, u_lst, u_scr, u_str, b_lenl, b_lent, b_lenc, b_lens, b_abs, b_max2, b_min2, b_int, b_inb, b_tup, b_srtk, i_lst, i_tup, i_scr, is_n, is_b, exists_eq_left', exists_eq_left, exists_eq_right, Option.some.injEq,  partD, setS, setAll, tgD, tgSlots, wipeE, List.set_cons_zero, List.set_cons_succ, List.set_nil, List.take_nil, List.take_zero, m_f, m_t, r_int, r_bl, r_str, r_non, r_tup, r_lstf, r_lstt, r_v, r_newf, r_newt, List.any_cons, List.any_nil, owned, Bool.or_false, Bool.false_or, fl_bl, fl_int, fl_str, fl_non, fl_rs, exists_eq', Ct.lst.injEq, Ct.ob.injEq, D.kst.injEq, List.take_succ_cons, dat_lst, dat_ob, dat_fz, Option.some.injEq, SV.d.injEq, D.int.injEq, forall_eq', reduceCtorEq, false_implies, forall_const, Bool.false_eq_true, List.set, if_true, if_false, Bool.not_true, Bool.not_false]
  refine ⟨Nat.zero_le _, by omega, by omega, fun i e l => ∃ c' ws x y w, e = [some (.d (.int c')), some (.d (.int m)), some (.d (.int len)), some (.c 0), x, y, w] ∧ l = [.lst (iL ws)] ∧ ws.length = i ∧ Lt ws m, ⟨c, [], none, none, none, rfl, rfl, rfl, Lt.nil⟩, ?_, ?_⟩
  · rintro i x e l hx ⟨c', ws, x', y', w', rfl, rfl, hw, hL⟩
    obtain ⟨hi, rfl⟩ := rng_it hx
    rw [Int.toNat_natCast] at hi
    simp only [b14_2, fnT, startE, List.length_cons, List.length_nil, List.map_cons, List.map_nil, List.cons_append, List.nil_append, Nat.sub_self, Nat.reduceSub, Nat.reduceAdd, Nat.reduceLT, List.replicate_zero, List.reduceReplicate, List.replicate_succ, wpSs, wpS, wpE, wpEs, wpT, wpI, wpC, List.getElem?_cons_zero, List.getElem?_cons_succ, List.getElem?_nil, den, dens, back, true_and, and_true, nrmE, nrmT, frzSlots, cutV1, frzT, frzL, eq_ii, eq_bb, eq_ss, eq_nn, D.isNon, o_add, o_adds, o_addl, o_sub, o_addt, n_split, n_find, o_mul, o_rep, o_div, o_mod, o_pow, c_lt, c_le, c_gt, c_ge, c_lts, c_eq, c_ne, c_is, c_isnot, c_in, c_notin, t_bl, t_non, t_int, t_lst, t_tup, x_lst, x_tup, x_scr, x_str, u_lst, u_scr, u_str, b_lenl, b_lent, b_lenc, b_lens, b_abs, b_max2, b_min2, b_int, b_inb, b_tup, b_srtk, i_lst, i_tup, i_scr, is_n, is_b, exists_eq_left', exists_eq_left, exists_eq_right, Option.some.injEq,  partD, setS, setAll, tgD, tgSlots, wipeE, List.set_cons_zero, List.set_cons_succ, List.set_nil, List.take_nil, List.take_zero, m_f, m_t, r_int, r_bl, r_str, r_non, r_tup, r_lstf, r_lstt, r_v, r_newf, r_newt, List.any_cons, List.any_nil, owned, Bool.or_false, Bool.false_or, fl_bl, fl_int, fl_str, fl_non, fl_rs, exists_eq', Ct.lst.injEq, Ct.ob.injEq, D.kst.injEq, List.take_succ_cons, dat_lst, dat_ob, dat_fz, Option.some.injEq, SV.d.injEq, D.int.injEq, forall_eq', reduceCtorEq, false_implies, forall_const, Bool.false_eq_true, List.set, if_true, if_false, Bool.not_true, Bool.not_false]
    refine ⟨by omega, by omega, fun j acc => ∃ us, acc = iL us ∧ us.length ≤ j ∧ Lt us m, ⟨[], rfl, Nat.zero_le _, Lt.nil⟩, ?_, ?_⟩
    · rintro j x acc hx ⟨us, rfl, hus, hu2⟩
      obtain ⟨hj, rfl⟩ := rng_it hx
      have sz : (iL us).length < sizeLine := sizeLine_lt (by rw [len_ints]; omega)
      simp only [b14_0, b14_1, fnT, startE, List.length_cons, List.length_nil, List.map_cons, List.map_nil, List.cons_append, List.nil_append, Nat.sub_self, Nat.reduceSub, Nat.reduceAdd, Nat.reduceLT, List.replicate_zero, List.reduceReplicate, List.replicate_succ, wpSs, wpS, wpE, wpEs, wpT, wpI, wpC, List.getElem?_cons_zero, List.getElem?_cons_succ, List.getElem?_nil, den, dens, back, true_and, and_true, nrmE, nrmT, frzSlots, cutV1, frzT, frzL, eq_ii, eq_bb, eq_ss, eq_nn, D.isNon, o_add, o_adds, o_addl, o_sub, o_addt, n_split, n_find, o_mul, o_rep, o_div, o_mod, o_pow, c_lt, c_le, c_gt, c_ge, c_lts, c_eq, c_ne, c_is, c_isnot, c_in, c_notin, t_bl, t_non, t_int, t_lst, t_tup, x_lst, x_tup, x_scr, x_str, u_lst, u_scr, u_str, b_lenl, b_lent, b_lenc, b_lens, b_abs, b_max2, b_min2, b_int, b_inb, b_tup, b_srtk, i_lst, i_tup, i_scr, is_n, is_b, exists_eq_left', exists_eq_left, exists_eq_right, Option.some.injEq,  partD, setS, setAll, tgD, tgSlots, wipeE, List.set_cons_zero, List.set_cons_succ, List.set_nil, List.take_nil, List.take_zero, m_f, m_t, r_int, r_bl, r_str, r_non, r_tup, r_lstf, r_lstt, r_v, r_newf, r_newt, List.any_cons, List.any_nil, owned, Bool.or_false, Bool.false_or, fl_bl, fl_int, fl_str, fl_non, fl_rs, exists_eq', Ct.lst.injEq, Ct.ob.injEq, D.kst.injEq, List.take_succ_cons, dat_lst, dat_ob, dat_fz, Option.some.injEq, SV.d.injEq, D.int.injEq, forall_eq', reduceCtorEq, false_implies, forall_const, Bool.false_eq_true, List.set, if_true, if_false, Bool.not_true, Bool.not_false]
      refine s_apart hm ?_
      simp only [fnT, startE, List.length_cons, List.length_nil, List.map_cons, List.map_nil, List.cons_append, List.nil_append, Nat.sub_self, Nat.reduceSub, Nat.reduceAdd, Nat.reduceLT, List.replicate_zero, List.reduceReplicate, List.replicate_succ, wpSs, wpS, wpE, wpEs, wpT, wpI, wpC, List.getElem?_cons_zero, List.getElem?_cons_succ, List.getElem?_nil, den, dens, back, true_and, and_true, nrmE, nrmT, frzSlots, cutV1, frzT, frzL, eq_ii, eq_bb, eq_ss, eq_nn, D.isNon, o_add, o_adds, o_addl, o_sub, o_addt, n_split, n_find, o_mul, o_rep, o_div, o_mod, o_pow, c_lt, c_le, c_gt, c_ge, c_lts, c_eq, c_ne, c_is, c_isnot, c_in, c_notin, t_bl, t_non, t_int, t_lst, t_tup, x_lst, x_tup, x_scr, x_str, u_lst, u_scr, u_str, b_lenl, b_lent, b_lenc, b_lens, b_abs, b_max2, b_min2, b_int, b_inb, b_tup, b_srtk, i_lst, i_tup, i_scr, is_n, is_b, exists_eq_left', exists_eq_left, exists_eq_right, Option.some.injEq,  partD, setS, setAll, tgD, tgSlots, wipeE, List.set_cons_zero, List.set_cons_succ, List.set_nil, List.take_nil, List.take_zero, m_f, m_t, r_int, r_bl, r_str, r_non, r_tup, r_lstf, r_lstt, r_v, r_newf, r_newt, List.any_cons, List.any_nil, owned, Bool.or_false, Bool.false_or, fl_bl, fl_int, fl_str, fl_non, fl_rs, exists_eq', Ct.lst.injEq, Ct.ob.injEq, D.kst.injEq, List.take_succ_cons, dat_lst, dat_ob, dat_fz, Option.some.injEq, SV.d.injEq, D.int.injEq, forall_eq', reduceCtorEq, false_implies, forall_const, Bool.false_eq_true, List.set, if_true, if_false, Bool.not_true, Bool.not_false]
      refine ⟨fun h0 => ⟨fun h1 => ⟨⟨[], rfl⟩, ⟨_, [], rfl, rfl, sz, us ++ [(j : Int)], by rw [app_ints], by simp; omega, hu2.snoc (by omega) (by omega)⟩⟩, fun h1 => ?_⟩, fun h0 => ⟨⟨[], rfl⟩, ⟨us, rfl, by omega, hu2⟩⟩⟩
      have i0 : i ≠ 0 := by simp at h1; omega
      have hi1 : i - 1 < ws.length := by omega
      have hp : ws[i - 1]? = some ws[i - 1] := List.getElem?_eq_getElem hi1
      generalize ws[i - 1] = p at hp
      have a2 : atI (iL ws) ((i : Int) - 1) = some (.int p) := by rw [show ((i : Int) - 1) = ((i - 1 : Nat) : Int) by omega, atI_ints, getl hp]; rfl
      simp only [a2, fnT, startE, List.length_cons, List.length_nil, List.map_cons, List.map_nil, List.cons_append, List.nil_append, Nat.sub_self, Nat.reduceSub, Nat.reduceAdd, Nat.reduceLT, List.replicate_zero, List.reduceReplicate, List.replicate_succ, wpSs, wpS, wpE, wpEs, wpT, wpI, wpC, List.getElem?_cons_zero, List.getElem?_cons_succ, List.getElem?_nil, den, dens, back, true_and, and_true, nrmE, nrmT, frzSlots, cutV1, frzT, frzL, eq_ii, eq_bb, eq_ss, eq_nn, D.isNon, o_add, o_adds, o_addl, o_sub, o_addt, n_split, n_find, o_mul, o_rep, o_div, o_mod, o_pow, c_lt, c_le, c_gt, c_ge, c_lts, c_eq, c_ne, c_is, c_isnot, c_in, c_notin, t_bl, t_non, t_int, t_lst, t_tup, x_lst, x_tup, x_scr, x_str, u_lst, u_scr, u_str, b_lenl, b_lent, b_lenc, b_lens, b_abs, b_max2, b_min2, b_int, b_inb, b_tup, b_srtk, i_lst, i_tup, i_scr, is_n, is_b, exists_eq_left', exists_eq_left, exists_eq_right, Option.some.injEq,  partD, setS, setAll, tgD, tgSlots, wipeE, List.set_cons_zero, List.set_cons_succ, List.set_nil, List.take_nil, List.take_zero, m_f, m_t, r_int, r_bl, r_str, r_non, r_tup, r_lstf, r_lstt, r_v, r_newf, r_newt, List.any_cons, List.any_nil, owned, Bool.or_false, Bool.false_or, fl_bl, fl_int, fl_str, fl_non, fl_rs, exists_eq', Ct.lst.injEq, Ct.ob.injEq, D.kst.injEq, List.take_succ_cons, dat_lst, dat_ob, dat_fz, Option.some.injEq, SV.d.injEq, D.int.injEq, forall_eq', reduceCtorEq, false_implies, forall_const, Bool.false_eq_true, List.set, if_true, if_false, Bool.not_true, Bool.not_false]
      refine s_apart hm ?_
      simp only [fnT, startE, List.length_cons, List.length_nil, List.map_cons, List.map_nil, List.cons_append, List.nil_append, Nat.sub_self, Nat.reduceSub, Nat.reduceAdd, Nat.reduceLT, List.replicate_zero, List.reduceReplicate, List.replicate_succ, wpSs, wpS, wpE, wpEs, wpT, wpI, wpC, List.getElem?_cons_zero, List.getElem?_cons_succ, List.getElem?_nil, den, dens, back, true_and, and_true, nrmE, nrmT, frzSlots, cutV1, frzT, frzL, eq_ii, eq_bb, eq_ss, eq_nn, D.isNon, o_add, o_adds, o_addl, o_sub, o_addt, n_split, n_find, o_mul, o_rep, o_div, o_mod, o_pow, c_lt, c_le, c_gt, c_ge, c_lts, c_eq, c_ne, c_is, c_isnot, c_in, c_notin, t_bl, t_non, t_int, t_lst, t_tup, x_lst, x_tup, x_scr, x_str, u_lst, u_scr, u_str, b_lenl, b_lent, b_lenc, b_lens, b_abs, b_max2, b_min2, b_int, b_inb, b_tup, b_srtk, i_lst, i_tup, i_scr, is_n, is_b, exists_eq_left', exists_eq_left, exists_eq_right, Option.some.injEq,  partD, setS, setAll, tgD, tgSlots, wipeE, List.set_cons_zero, List.set_cons_succ, List.set_nil, List.take_nil, List.take_zero, m_f, m_t, r_int, r_bl, r_str, r_non, r_tup, r_lstf, r_lstt, r_v, r_newf, r_newt, List.any_cons, List.any_nil, owned, Bool.or_false, Bool.false_or, fl_bl, fl_int, fl_str, fl_non, fl_rs, exists_eq', Ct.lst.injEq, Ct.ob.injEq, D.kst.injEq, List.take_succ_cons, dat_lst, dat_ob, dat_fz, Option.some.injEq, SV.d.injEq, D.int.injEq, forall_eq', reduceCtorEq, false_implies, forall_const, Bool.false_eq_true, List.set, if_true, if_false, Bool.not_true, Bool.not_false]
      exact ⟨⟨[], rfl⟩, fun h2 => ⟨_, [], rfl, rfl, sz, us ++ [(j : Int)], by rw [app_ints], by simp; omega, hu2.snoc (by omega) (by omega)⟩, fun h2 => ⟨us, rfl, by omega, hu2⟩⟩
    · rintro acc ⟨us, rfl, hus, hu2⟩
      rw [rng_len] at hus
      refine ⟨Nat.zero_le _, eq_ints (ys := []) ?_⟩
      have tail : ∀ us : List Int, us ≠ [] → 0 < us.length → Lt us m → ∃ q, atI us (c' % us.length) = some q ∧ 0 ≤ q ∧ q < m := fun us ne hp hu => by
        have l1 := Int.emod_lt_of_pos c' (show (0 : Int) < us.length by omega)
        have l2 := Int.emod_nonneg c' (show (us.length : Int) ≠ 0 by omega)
        obtain ⟨q, hq⟩ := atI_in l2 l1
        rw [atI_pos l2 l1] at hq
        exact ⟨q, by rw [atI_pos l2 l1]; exact hq, hu q (List.mem_of_getElem? hq)⟩
      have szw : ws.length < sizeLine := sizeLine_lt (by omega)
      refine ⟨fun h0 => ?_, fun h0 => ?_⟩
      · refine ⟨by omega, by omega, ?_⟩
        have el : ((List.range m.toNat).map fun (i : Nat) => D.int (i : Int)) = iL ((List.range m.toNat).map fun (i : Nat) => (i : Int)) := by simp [iL]
        rw [el]
        generalize hu : ((List.range m.toNat).map fun (i : Nat) => (i : Int)) = us
        have hul : us.length = m.toNat := by rw [← hu]; simp
        have hu3 : Lt us m := fun v hv => by
          rw [← hu] at hv
          simp at hv
          obtain ⟨a, ha, rfl⟩ := hv
          omega
        obtain ⟨q, hq, hq0, hq1⟩ := tail us (fun z => by rw [z] at hul; simp at hul; omega) (by omega) hu3
        have hq2 : atI (iL us) (c' % us.length) = some (.int q) := by rw [atI_ints, hq]; rfl
        simp only [len_ints, hq2, fnT, startE, List.length_cons, List.length_nil, List.map_cons, List.map_nil, List.cons_append, List.nil_append, Nat.sub_self, Nat.reduceSub, Nat.reduceAdd, Nat.reduceLT, List.replicate_zero, List.reduceReplicate, List.replicate_succ, wpSs, wpS, wpE, wpEs, wpT, wpI, wpC, List.getElem?_cons_zero, List.getElem?_cons_succ, List.getElem?_nil, den, dens, back, true_and, and_true, nrmE, nrmT, frzSlots, cutV1, frzT, frzL, eq_ii, eq_bb, eq_ss, eq_nn, D.isNon, o_add, o_adds, o_addl, o_sub, o_addt, n_split, n_find, o_mul, o_rep, o_div, o_mod, o_pow, c_lt, c_le, c_gt, c_ge, c_lts, c_eq, c_ne, c_is, c_isnot, c_in, c_notin, t_bl, t_non, t_int, t_lst, t_tup, x_lst, x_tup, x_scr, x_str, u_lst, u_scr, u_str, b_lenl, b_lent, b_lenc, b_lens, b_abs, b_max2, b_min2, b_int, b_inb, b_tup, b_srtk, i_lst, i_tup, i_scr, is_n, is_b, exists_eq_left', exists_eq_left, exists_eq_right, Option.some.injEq,  partD, setS, setAll, tgD, tgSlots, wipeE, List.set_cons_zero, List.set_cons_succ, List.set_nil, List.take_nil, List.take_zero, m_f, m_t, r_int, r_bl, r_str, r_non, r_tup, r_lstf, r_lstt, r_v, r_newf, r_newt, List.any_cons, List.any_nil, owned, Bool.or_false, Bool.false_or, fl_bl, fl_int, fl_str, fl_non, fl_rs, exists_eq', Ct.lst.injEq, Ct.ob.injEq, D.kst.injEq, List.take_succ_cons, dat_lst, dat_ob, dat_fz, Option.some.injEq, SV.d.injEq, D.int.injEq, forall_eq', reduceCtorEq, false_implies, forall_const, Bool.false_eq_true, List.set, if_true, if_false, Bool.not_true, Bool.not_false]
        exact ⟨by omega, szw, divOk_of (by decide) (by decide), _, _, _, _, _, rfl, by rw [app_ints], by simp [hw], hL.snoc hq0 hq1⟩
      · have ne : us ≠ [] := by simpa using h0
        have hp := List.length_pos_iff.mpr ne
        obtain ⟨q, hq, hq0, hq1⟩ := tail us ne hp hu2
        have hq2 : atI (iL us) (c' % us.length) = some (.int q) := by rw [atI_ints, hq]; rfl
        simp only [len_ints, hq2, fnT, startE, List.length_cons, List.length_nil, List.map_cons, List.map_nil, List.cons_append, List.nil_append, Nat.sub_self, Nat.reduceSub, Nat.reduceAdd, Nat.reduceLT, List.replicate_zero, List.reduceReplicate, List.replicate_succ, wpSs, wpS, wpE, wpEs, wpT, wpI, wpC, List.getElem?_cons_zero, List.getElem?_cons_succ, List.getElem?_nil, den, dens, back, true_and, and_true, nrmE, nrmT, frzSlots, cutV1, frzT, frzL, eq_ii, eq_bb, eq_ss, eq_nn, D.isNon, o_add, o_adds, o_addl, o_sub, o_addt, n_split, n_find, o_mul, o_rep, o_div, o_mod, o_pow, c_lt, c_le, c_gt, c_ge, c_lts, c_eq, c_ne, c_is, c_isnot, c_in, c_notin, t_bl, t_non, t_int, t_lst, t_tup, x_lst, x_tup, x_scr, x_str, u_lst, u_scr, u_str, b_lenl, b_lent, b_lenc, b_lens, b_abs, b_max2, b_min2, b_int, b_inb, b_tup, b_srtk, i_lst, i_tup, i_scr, is_n, is_b, exists_eq_left', exists_eq_left, exists_eq_right, Option.some.injEq,  partD, setS, setAll, tgD, tgSlots, wipeE, List.set_cons_zero, List.set_cons_succ, List.set_nil, List.take_nil, List.take_zero, m_f, m_t, r_int, r_bl, r_str, r_non, r_tup, r_lstf, r_lstt, r_v, r_newf, r_newt, List.any_cons, List.any_nil, owned, Bool.or_false, Bool.false_or, fl_bl, fl_int, fl_str, fl_non, fl_rs, exists_eq', Ct.lst.injEq, Ct.ob.injEq, D.kst.injEq, List.take_succ_cons, dat_lst, dat_ob, dat_fz, Option.some.injEq, SV.d.injEq, D.int.injEq, forall_eq', reduceCtorEq, false_implies, forall_const, Bool.false_eq_true, List.set, if_true, if_false, Bool.not_true, Bool.not_false]
        exact ⟨by omega, szw, divOk_of (by decide) (by decide), _, _, _, _, _, rfl, by rw [app_ints], by simp [hw], hL.snoc hq0 hq1⟩
  · rintro e l ⟨c', ws, x', y', w', rfl, rfl, hw, hL⟩
    simp only [fnT, startE, List.length_cons, List.length_nil, List.map_cons, List.map_nil, List.cons_append, List.nil_append, Nat.sub_self, Nat.reduceSub, Nat.reduceAdd, Nat.reduceLT, List.replicate_zero, List.reduceReplicate, List.replicate_succ, wpSs, wpS, wpE, wpEs, wpT, wpI, wpC, List.getElem?_cons_zero, List.getElem?_cons_succ, List.getElem?_nil, den, dens, back, true_and, and_true, nrmE, nrmT, frzSlots, cutV1, frzT, frzL, eq_ii, eq_bb, eq_ss, eq_nn, D.isNon, o_add, o_adds, o_addl, o_sub, o_addt, n_split, n_find, o_mul, o_rep, o_div, o_mod, o_pow, c_lt, c_le, c_gt, c_ge, c_lts, c_eq, c_ne, c_is, c_isnot, c_in, c_notin, t_bl, t_non, t_int, t_lst, t_tup, x_lst, x_tup, x_scr, x_str, u_lst, u_scr, u_str, b_lenl, b_lent, b_lenc, b_lens, b_abs, b_max2, b_min2, b_int, b_inb, b_tup, b_srtk, i_lst, i_tup, i_scr, is_n, is_b, exists_eq_left', exists_eq_left, exists_eq_right, Option.some.injEq,  partD, setS, setAll, tgD, tgSlots, wipeE, List.set_cons_zero, List.set_cons_succ, List.set_nil, List.take_nil, List.take_zero, m_f, m_t, r_int, r_bl, r_str, r_non, r_tup, r_lstf, r_lstt, r_v, r_newf, r_newt, List.any_cons, List.any_nil, owned, Bool.or_false, Bool.false_or, fl_bl, fl_int, fl_str, fl_non, fl_rs, exists_eq', Ct.lst.injEq, Ct.ob.injEq, D.kst.injEq, List.take_succ_cons, dat_lst, dat_ob, dat_fz, Option.some.injEq, SV.d.injEq, D.int.injEq, forall_eq', reduceCtorEq, false_implies, forall_const, Bool.false_eq_true, List.set, if_true, if_false, Bool.not_true, Bool.not_false]
    exact h ws (by rw [hw, rng_len, Int.toNat_natCast]) hL
theorem setN {len : Nat} {i : Int} (h0 : 0 ≤ i) (h1 : i < len) : ixN len i = some i.toNat := by
  unfold ixN
  rw [if_pos h0, if_pos h1]
theorem s_some {n : Nat} {c m : Int} {k z} (hm : 0 < m) (hm2 : m ≤ 26) (h : ∀ ws : List Int, 3 ≤ ws.length → ws.length ≤ 8 → Lt ws m → k (.v (.lst (iL ws)))) : wpF fnT gcT (n+3) 16 [.int c, .int m] k z := by
  unfold wpF
  simp only [f16, b16, fnT, startE, List.length_cons, List.length_nil, List.map_cons, List.map_nil, List.cons_append, List.nil_append, Nat.sub_self, Nat.reduceSub, Nat.reduceAdd, Nat.reduceLT, List.replicate_zero, List.reduceReplicate, List.replicate_succ, wpSs, wpS, wpE, wpEs, wpT, wpI, wpC, List.getElem?_cons_zero, List.getElem?_cons_succ, List.getElem?_nil, den, dens, back, true_and, and_true, nrmE, nrmT, frzSlots, cutV1, frzT, frzL, eq_ii, eq_bb, eq_ss, eq_nn, D.isNon, o_add, o_adds, o_addl, o_sub, o_addt, n_split, n_find, o_mul, o_rep, o_div, o_mod, o_pow, c_lt, c_le, c_gt, c_ge, c_lts, c_eq, c_ne, c_is, c_isnot, c_in, c_notin, t_bl, t_non, t_int, t_lst, t_tup, x_lst, x_tup, x_scr, x_str, u_lst, u_scr, u_str, b_lenl, b_lent, b_lenc, b_lens, b_abs, b_max2, b_min2, b_int, b_inb, b_tup, b_srtk, i_lst, i_tup, i_scr, is_n, is_b, exists_eq_left', exists_eq_left, exists_eq_right, Option.some.injEq,  partD, setS, setAll, tgD, tgSlots, wipeE, List.set_cons_zero, List.set_cons_succ, List.set_nil, List.take_nil, List.take_zero, m_f, m_t, r_int, r_bl, r_str, r_non, r_tup, r_lstf, r_lstt, r_v, r_newf, r_newt, List.any_cons, List.any_nil, owned, Bool.or_false, Bool.false_or, fl_bl, fl_int, fl_str, fl_non, fl_rs, exists_eq', Ct.lst.injEq, Ct.ob.injEq, D.kst.injEq, List.take_succ_cons, dat_lst, dat_ob, dat_fz, Option.some.injEq, SV.d.injEq, D.int.injEq, forall_eq', reduceCtorEq, false_implies, forall_const, Bool.false_eq_true, List.set, if_true, if_false, Bool.not_true, Bool.not_false]
  refine s_mixed fun q q0 q1 => ?_
  simp only [fnT, startE, List.length_cons, List.length_nil, List.map_cons, List.map_nil, List.cons_append, List.nil_append, Nat.sub_self, Nat.reduceSub, Nat.reduceAdd, Nat.reduceLT, List.replicate_zero, List.reduceReplicate, List.replicate_succ, wpSs, wpS, wpE, wpEs, wpT, wpI, wpC, List.getElem?_cons_zero, List.getElem?_cons_succ, List.getElem?_nil, den, dens, back, true_and, and_true, nrmE, nrmT, frzSlots, cutV1, frzT, frzL, eq_ii, eq_bb, eq_ss, eq_nn, D.isNon, o_add, o_adds, o_addl, o_sub, o_addt, n_split, n_find, o_mul, o_rep, o_div, o_mod, o_pow, c_lt, c_le, c_gt, c_ge, c_lts, c_eq, c_ne, c_is, c_isnot, c_in, c_notin, t_bl, t_non, t_int, t_lst, t_tup, x_lst, x_tup, x_scr, x_str, u_lst, u_scr, u_str, b_lenl, b_lent, b_lenc, b_lens, b_abs, b_max2, b_min2, b_int, b_inb, b_tup, b_srtk, i_lst, i_tup, i_scr, is_n, is_b, exists_eq_left', exists_eq_left, exists_eq_right, Option.some.injEq,  partD, setS, setAll, tgD, tgSlots, wipeE, List.set_cons_zero, List.set_cons_succ, List.set_nil, List.take_nil, List.take_zero, m_f, m_t, r_int, r_bl, r_str, r_non, r_tup, r_lstf, r_lstt, r_v, r_newf, r_newt, List.any_cons, List.any_nil, owned, Bool.or_false, Bool.false_or, fl_bl, fl_int, fl_str, fl_non, fl_rs, exists_eq', Ct.lst.injEq, Ct.ob.injEq, D.kst.injEq, List.take_succ_cons, dat_lst, dat_ob, dat_fz, Option.some.injEq, SV.d.injEq, D.int.injEq, forall_eq', reduceCtorEq, false_implies, forall_const, Bool.false_eq_true, List.set, if_true, if_false, Bool.not_true, Bool.not_false]
  refine ⟨divOk_of (by decide) (by decide), by decide, ?_⟩
  have l1 := Int.emod_lt_of_pos q (show (0 : Int) < 6 by decide)
  have l2 := Int.emod_nonneg q (show (6 : Int) ≠ 0 by decide)
  have e : 3 + q % 6 = (((3 + q % 6).toNat : Nat) : Int) := by omega
  rw [e]
  refine s_weights (n := n) hm hm2 (by omega) fun ws hw hL => ?_
  have rest : ∀ (ws : List Int) (x4 : Option SV), 3 ≤ ws.length → ws.length ≤ 8 → Lt ws m → wpSs (wpF fnT gcT (n + 2)) gcT b16_0 [some (SV.d (D.int c)), some (SV.d (D.int m)), some (SV.d (D.int q)), some (SV.c 0), x4] [Ct.lst (iL ws)]
      { nx := fun x x_1 => k (Rs.v D.non), rt := PD.back false k, bk := fun x x_1 => False, ct := fun x x_1 => False, z := fun x x_1 x_2 => z x } := fun ws x4 p1 p2 p3 => by
    simp only [b16_0, len_ints, fnT, startE, List.length_cons, List.length_nil, List.map_cons, List.map_nil, List.cons_append, List.nil_append, Nat.sub_self, Nat.reduceSub, Nat.reduceAdd, Nat.reduceLT, List.replicate_zero, List.reduceReplicate, List.replicate_succ, wpSs, wpS, wpE, wpEs, wpT, wpI, wpC, List.getElem?_cons_zero, List.getElem?_cons_succ, List.getElem?_nil, den, dens, back, true_and, and_true, nrmE, nrmT, frzSlots, cutV1, frzT, frzL, eq_ii, eq_bb, eq_ss, eq_nn, D.isNon, o_add, o_adds, o_addl, o_sub, o_addt, n_split, n_find, o_mul, o_rep, o_div, o_mod, o_pow, c_lt, c_le, c_gt, c_ge, c_lts, c_eq, c_ne, c_is, c_isnot, c_in, c_notin, t_bl, t_non, t_int, t_lst, t_tup, x_lst, x_tup, x_scr, x_str, u_lst, u_scr, u_str, b_lenl, b_lent, b_lenc, b_lens, b_abs, b_max2, b_min2, b_int, b_inb, b_tup, b_srtk, i_lst, i_tup, i_scr, is_n, is_b, exists_eq_left', exists_eq_left, exists_eq_right, Option.some.injEq,  partD, setS, setAll, tgD, tgSlots, wipeE, List.set_cons_zero, List.set_cons_succ, List.set_nil, List.take_nil, List.take_zero, m_f, m_t, r_int, r_bl, r_str, r_non, r_tup, r_lstf, r_lstt, r_v, r_newf, r_newt, List.any_cons, List.any_nil, owned, Bool.or_false, Bool.false_or, fl_bl, fl_int, fl_str, fl_non, fl_rs, exists_eq', Ct.lst.injEq, Ct.ob.injEq, D.kst.injEq, List.take_succ_cons, dat_lst, dat_ob, dat_fz, Option.some.injEq, SV.d.injEq, D.int.injEq, forall_eq', reduceCtorEq, false_implies, forall_const, Bool.false_eq_true, List.set, if_true, if_false, Bool.not_true, Bool.not_false]
    have rep : ∀ (v : Int) (j : Nat), (List.replicate j [D.int v]).flatten = iL (List.replicate j v) := fun v j => by
      induction j with
      | zero => rfl
      | succ j ih => rw [List.replicate_succ, List.flatten_cons, ih, List.replicate_succ]; rfl
    refine ⟨divOk_of (by decide) (by decide), by decide, fun h0 => ⟨divOk_of (by decide) (by decide), ?_⟩, fun h0 => ?_⟩
    · refine s_digits hm p2 fun us hu hu2 => ?_
      simp only [fnT, startE, List.length_cons, List.length_nil, List.map_cons, List.map_nil, List.cons_append, List.nil_append, Nat.sub_self, Nat.reduceSub, Nat.reduceAdd, Nat.reduceLT, List.replicate_zero, List.reduceReplicate, List.replicate_succ, wpSs, wpS, wpE, wpEs, wpT, wpI, wpC, List.getElem?_cons_zero, List.getElem?_cons_succ, List.getElem?_nil, den, dens, back, true_and, and_true, nrmE, nrmT, frzSlots, cutV1, frzT, frzL, eq_ii, eq_bb, eq_ss, eq_nn, D.isNon, o_add, o_adds, o_addl, o_sub, o_addt, n_split, n_find, o_mul, o_rep, o_div, o_mod, o_pow, c_lt, c_le, c_gt, c_ge, c_lts, c_eq, c_ne, c_is, c_isnot, c_in, c_notin, t_bl, t_non, t_int, t_lst, t_tup, x_lst, x_tup, x_scr, x_str, u_lst, u_scr, u_str, b_lenl, b_lent, b_lenc, b_lens, b_abs, b_max2, b_min2, b_int, b_inb, b_tup, b_srtk, i_lst, i_tup, i_scr, is_n, is_b, exists_eq_left', exists_eq_left, exists_eq_right, Option.some.injEq,  partD, setS, setAll, tgD, tgSlots, wipeE, List.set_cons_zero, List.set_cons_succ, List.set_nil, List.take_nil, List.take_zero, m_f, m_t, r_int, r_bl, r_str, r_non, r_tup, r_lstf, r_lstt, r_v, r_newf, r_newt, List.any_cons, List.any_nil, owned, Bool.or_false, Bool.false_or, fl_bl, fl_int, fl_str, fl_non, fl_rs, exists_eq', Ct.lst.injEq, Ct.ob.injEq, D.kst.injEq, List.take_succ_cons, dat_lst, dat_ob, dat_fz, Option.some.injEq, SV.d.injEq, D.int.injEq, forall_eq', reduceCtorEq, false_implies, forall_const, Bool.false_eq_true, List.set, if_true, if_false, Bool.not_true, Bool.not_false]
      refine ⟨divOk_of (by decide) (by decide), by decide, fun h1 => ?_, fun h1 => ?_⟩
      · have e1 : q / 6 % 4 = 2 := by simpa using h0
        have e2 : q / 6 % 4 = 3 := by simpa using h1
        omega
      · exact h us (by omega) (by omega) hu2
    · refine ⟨divOk_of (by decide) (by decide), by decide, fun h1 => ?_, fun h1 => ?_⟩
      · refine ⟨divOk_of (by decide) (by decide), by decide, fun h2 => ?_, fun h2 => h ws p1 p2 p3⟩
        refine ⟨divOk_of (by decide) (by decide), hm, sizeLine_big (by decide), by omega, by omega, sizeLine_big (by omega), ?_⟩
        rw [rep]
        exact h _ (by simp; omega) (by simp; omega) fun v hv => by
          rw [(List.mem_replicate.mp hv).2]
          exact ⟨Int.emod_nonneg _ (by omega), Int.emod_lt_of_pos _ hm⟩
      · exact h ws p1 p2 p3
  simp only [fnT, startE, List.length_cons, List.length_nil, List.map_cons, List.map_nil, List.cons_append, List.nil_append, Nat.sub_self, Nat.reduceSub, Nat.reduceAdd, Nat.reduceLT, List.replicate_zero, List.reduceReplicate, List.replicate_succ, wpSs, wpS, wpE, wpEs, wpT, wpI, wpC, List.getElem?_cons_zero, List.getElem?_cons_succ, List.getElem?_nil, den, dens, back, true_and, and_true, nrmE, nrmT, frzSlots, cutV1, frzT, frzL, eq_ii, eq_bb, eq_ss, eq_nn, D.isNon, o_add, o_adds, o_addl, o_sub, o_addt, n_split, n_find, o_mul, o_rep, o_div, o_mod, o_pow, c_lt, c_le, c_gt, c_ge, c_lts, c_eq, c_ne, c_is, c_isnot, c_in, c_notin, t_bl, t_non, t_int, t_lst, t_tup, x_lst, x_tup, x_scr, x_str, u_lst, u_scr, u_str, b_lenl, b_lent, b_lenc, b_lens, b_abs, b_max2, b_min2, b_int, b_inb, b_tup, b_srtk, i_lst, i_tup, i_scr, is_n, is_b, exists_eq_left', exists_eq_left, exists_eq_right, Option.some.injEq,  partD, setS, setAll, tgD, tgSlots, wipeE, List.set_cons_zero, List.set_cons_succ, List.set_nil, List.take_nil, List.take_zero, m_f, m_t, r_int, r_bl, r_str, r_non, r_tup, r_lstf, r_lstt, r_v, r_newf, r_newt, List.any_cons, List.any_nil, owned, Bool.or_false, Bool.false_or, fl_bl, fl_int, fl_str, fl_non, fl_rs, exists_eq', Ct.lst.injEq, Ct.ob.injEq, D.kst.injEq, List.take_succ_cons, dat_lst, dat_ob, dat_fz, Option.some.injEq, SV.d.injEq, D.int.injEq, forall_eq', reduceCtorEq, false_implies, forall_const, Bool.false_eq_true, List.set, if_true, if_false, Bool.not_true, Bool.not_false]
  refine ⟨divOk_of (by decide) (by decide), by decide, fun h0 => ?_, fun h0 => rest ws none (by omega) (by omega) hL⟩
  have lw : (iL ws).length = ws.length := len_ints
  have wp : 0 < ws.length := by omega
  have k1 := Int.emod_lt_of_pos (q / 24) (show (0 : Int) < (iL ws).length by omega)
  have k2 := Int.emod_nonneg (q / 24) (show ((iL ws).length : Int) ≠ 0 by omega)
  refine ⟨divOk_of (by decide) (by decide), by omega, divOk_of (by decide) (by decide), hm, _, _, rfl, setN k2 k1, ?_⟩
  have es : ∀ (i : Nat) (v : Int), (iL ws).set i (D.int v) = iL (ws.set i v) := fun i v => by simp [iL, List.map_set]
  rw [es]
  exact rest _ _ (by simp; omega) (by simp; omega) (hL.set (Int.emod_nonneg _ (by omega)) (Int.emod_lt_of_pos _ hm))
end K03

namespace K03
open PySem L2 PD
/-- the letters of an alphabet by its number -/
def letts (c s : Int) (j : Nat) : List Nat := (List.range j).map fun (i : Nat) => 97 + ((c + s * (i : Int)) % 26).toNat
theorem letts_len {c s : Int} {j : Nat} : (letts c s j).length = j := by simp [letts]
theorem letts_nodup {c s : Int} {j : Nat} (hj : j ≤ 26) (hs : s = 1 ∨ s = 25 ∨ s = 3 ∨ s = 5 ∨ s = 7 ∨ s = 9 ∨ s = 11 ∨ s = 15 ∨ s = 17) : (letts c s j).Nodup := by
  unfold letts
  refine List.pairwise_map.mpr (List.Pairwise.imp_of_mem (fun {a b} ha hb e0 e => e0 ?_) (List.nodup_range (n := j)))
  have a1 := List.mem_range.mp ha
  have b1 := List.mem_range.mp hb
  have e2 : (c + s * (a : Int)) % 26 = (c + s * (b : Int)) % 26 := by
    have h1 := Int.emod_nonneg (c + s * (a : Int)) (show (26 : Int) ≠ 0 by decide)
    have h2 := Int.emod_nonneg (c + s * (b : Int)) (show (26 : Int) ≠ 0 by decide)
    omega
  rcases hs with h | h | h | h | h | h | h | h | h <;> subst h <;> omega
theorem s_alphabet {n : Nat} {c : Int} {k z} (h : ∀ (cs : List Nat), cs.Nodup → 3 ≤ cs.length → cs.length ≤ 26 → (∀ x ∈ cs, 97 ≤ x ∧ x < 123) → k (.v (.str (sL cs)))) : wpF fnT gcT (n+1) 11 [.int c] k z := by
  unfold wpF
  simp only [f11, b11, fnT, startE, List.length_cons, List.length_nil, List.map_cons, List.map_nil, List.cons_append, List.nil_append, Nat.sub_self, Nat.reduceSub, Nat.reduceAdd, Nat.reduceLT, List.replicate_zero, List.reduceReplicate, List.replicate_succ, wpSs, wpS, wpE, wpEs, wpT, wpI, wpC, List.getElem?_cons_zero, List.getElem?_cons_succ, List.getElem?_nil, den, dens, back, true_and, and_true, nrmE, nrmT, frzSlots, cutV1, frzT, frzL, eq_ii, eq_bb, eq_ss, eq_nn, D.isNon, o_add, o_adds, o_addl, o_sub, o_addt, n_split, n_find, o_mul, o_rep, o_div, o_mod, o_pow, c_lt, c_le, c_gt, c_ge, c_lts, c_eq, c_ne, c_is, c_isnot, c_in, c_notin, t_bl, t_non, t_int, t_lst, t_tup, x_lst, x_tup, x_scr, x_str, u_lst, u_scr, u_str, b_lenl, b_lent, b_lenc, b_lens, b_abs, b_max2, b_min2, b_int, b_inb, b_tup, b_srtk, i_lst, i_tup, i_scr, is_n, is_b, exists_eq_left', exists_eq_left, exists_eq_right, Option.some.injEq,  partD, setS, setAll, tgD, tgSlots, wipeE, List.set_cons_zero, List.set_cons_succ, List.set_nil, List.take_nil, List.take_zero, m_f, m_t, r_int, r_bl, r_str, r_non, r_tup, r_lstf, r_lstt, r_v, r_newf, r_newt, List.any_cons, List.any_nil, owned, Bool.or_false, Bool.false_or, fl_bl, fl_int, fl_str, fl_non, fl_rs, exists_eq', Ct.lst.injEq, Ct.ob.injEq, D.kst.injEq, List.take_succ_cons, dat_lst, dat_ob, dat_fz, Option.some.injEq, SV.d.injEq, D.int.injEq, forall_eq', reduceCtorEq, false_implies, forall_const, Bool.false_eq_true, List.set, if_true, if_false, Bool.not_true, Bool.not_false]
  have m12 := Int.emod_lt_of_pos c (show (0 : Int) < 12 by decide)
  have n12 := Int.emod_nonneg c (show (12 : Int) ≠ 0 by decide)
  have m9 := Int.emod_lt_of_pos (c / 1000) (show (0 : Int) < 9 by decide)
  have n9 := Int.emod_nonneg (c / 1000) (show (9 : Int) ≠ 0 by decide)
  have second : ∃ v, atI [D.int 1, D.int 25, D.int 3, D.int 5, D.int 7, D.int 9, D.int 11, D.int 15, D.int 17] (c / 1000 % 9) = some v ∧ ∃ s, v = .int s ∧ (s = 1 ∨ s = 25 ∨ s = 3 ∨ s = 5 ∨ s = 7 ∨ s = 9 ∨ s = 11 ∨ s = 15 ∨ s = 17) := by
    generalize c / 1000 % 9 = t at *
    rcases (show t = 0 ∨ t = 1 ∨ t = 2 ∨ t = 3 ∨ t = 4 ∨ t = 5 ∨ t = 6 ∨ t = 7 ∨ t = 8 by omega) with q | q | q | q | q | q | q | q | q <;> subst q <;> exact ⟨_, rfl, _, rfl, by simp⟩
  have first : ∃ v, atI [D.int 3, D.int 5, D.int 7, D.int 9, D.int 11, D.int 15, D.int 21, D.int 25, D.int 26, D.int 4, D.int 6, D.int 13] (c % 12) = some v ∧ ∃ s, v = .int s ∧ 3 ≤ s ∧ s ≤ 26 := by
    generalize c % 12 = t at *
    rcases (show t = 0 ∨ t = 1 ∨ t = 2 ∨ t = 3 ∨ t = 4 ∨ t = 5 ∨ t = 6 ∨ t = 7 ∨ t = 8 ∨ t = 9 ∨ t = 10 ∨ t = 11 by omega) with q | q | q | q | q | q | q | q | q | q | q | q <;> subst q <;> exact ⟨_, rfl, _, rfl, by decide, by decide⟩
  obtain ⟨v1, e1, many1, rfl, g1, g2⟩ := first
  obtain ⟨v2, e2, s, rfl, hs⟩ := second
  have m24 := Int.emod_lt_of_pos (c / 36) (show (0 : Int) < 24 by decide)
  have n24 := Int.emod_nonneg (c / 36) (show (24 : Int) ≠ 0 by decide)
  have rest : ∀ (many : Int) (x4 : Option SV), 3 ≤ many → many ≤ 26 → wpSs (wpF fnT gcT n) gcT b11_1 [some (SV.d (D.int c)), some (SV.d (D.str (Str.ofString "abcdefghijklmnopqrstuvwxyz"))), some (SV.d (D.int many)), none, none] []
      { nx := fun x x_1 => k (Rs.v D.non), rt := PD.back false k, bk := fun x x_1 => False, ct := fun x x_1 => False, z := fun x x_1 x_2 => z x } := fun many x4 g1 g2 => by
    simp only [b11_1, e2, fnT, startE, List.length_cons, List.length_nil, List.map_cons, List.map_nil, List.cons_append, List.nil_append, Nat.sub_self, Nat.reduceSub, Nat.reduceAdd, Nat.reduceLT, List.replicate_zero, List.reduceReplicate, List.replicate_succ, wpSs, wpS, wpE, wpEs, wpT, wpI, wpC, List.getElem?_cons_zero, List.getElem?_cons_succ, List.getElem?_nil, den, dens, back, true_and, and_true, nrmE, nrmT, frzSlots, cutV1, frzT, frzL, eq_ii, eq_bb, eq_ss, eq_nn, D.isNon, o_add, o_adds, o_addl, o_sub, o_addt, n_split, n_find, o_mul, o_rep, o_div, o_mod, o_pow, c_lt, c_le, c_gt, c_ge, c_lts, c_eq, c_ne, c_is, c_isnot, c_in, c_notin, t_bl, t_non, t_int, t_lst, t_tup, x_lst, x_tup, x_scr, x_str, u_lst, u_scr, u_str, b_lenl, b_lent, b_lenc, b_lens, b_abs, b_max2, b_min2, b_int, b_inb, b_tup, b_srtk, i_lst, i_tup, i_scr, is_n, is_b, exists_eq_left', exists_eq_left, exists_eq_right, Option.some.injEq,  partD, setS, setAll, tgD, tgSlots, wipeE, List.set_cons_zero, List.set_cons_succ, List.set_nil, List.take_nil, List.take_zero, m_f, m_t, r_int, r_bl, r_str, r_non, r_tup, r_lstf, r_lstt, r_v, r_newf, r_newt, List.any_cons, List.any_nil, owned, Bool.or_false, Bool.false_or, fl_bl, fl_int, fl_str, fl_non, fl_rs, exists_eq', Ct.lst.injEq, Ct.ob.injEq, D.kst.injEq, List.take_succ_cons, dat_lst, dat_ob, dat_fz, Option.some.injEq, SV.d.injEq, D.int.injEq, forall_eq', reduceCtorEq, false_implies, forall_const, Bool.false_eq_true, List.set, if_true, if_false, Bool.not_true, Bool.not_false]
    refine ⟨sizeLine_big (by decide), divOk_of (by decide) (by decide), by decide, ?_⟩
    refine ⟨by omega, by omega, fun i acc => acc = (letts (c / 9000) s i).map (fun x => D.str (ch x)), rfl, ?_, ?_⟩
    · rintro i x acc hx rfl
      obtain ⟨hi, rfl⟩ := rng_it hx
      have m26 := Int.emod_lt_of_pos (c / 9000 + s * (i : Int)) (show (0 : Int) < 26 by decide)
      have n26 := Int.emod_nonneg (c / 9000 + s * (i : Int)) (show (26 : Int) ≠ 0 by decide)
      have a1 : atI (("abcdefghijklmnopqrstuvwxyz" : Str)).cps.toList ((c / 9000 + s * (i : Int)) % 26) = some (97 + ((c / 9000 + s * (i : Int)) % 26).toNat) := by
        rw [az_str, list_sL, atI_pos n26 (by simpa using m26), List.getElem?_map, List.getElem?_range (by omega)]
        rfl
      simp only [b11_0, a1, fnT, startE, List.length_cons, List.length_nil, List.map_cons, List.map_nil, List.cons_append, List.nil_append, Nat.sub_self, Nat.reduceSub, Nat.reduceAdd, Nat.reduceLT, List.replicate_zero, List.reduceReplicate, List.replicate_succ, wpSs, wpS, wpE, wpEs, wpT, wpI, wpC, List.getElem?_cons_zero, List.getElem?_cons_succ, List.getElem?_nil, den, dens, back, true_and, and_true, nrmE, nrmT, frzSlots, cutV1, frzT, frzL, eq_ii, eq_bb, eq_ss, eq_nn, D.isNon, o_add, o_adds, o_addl, o_sub, o_addt, n_split, n_find, o_mul, o_rep, o_div, o_mod, o_pow, c_lt, c_le, c_gt, c_ge, c_lts, c_eq, c_ne, c_is, c_isnot, c_in, c_notin, t_bl, t_non, t_int, t_lst, t_tup, x_lst, x_tup, x_scr, x_str, u_lst, u_scr, u_str, b_lenl, b_lent, b_lenc, b_lens, b_abs, b_max2, b_min2, b_int, b_inb, b_tup, b_srtk, i_lst, i_tup, i_scr, is_n, is_b, exists_eq_left', exists_eq_left, exists_eq_right, Option.some.injEq,  partD, setS, setAll, tgD, tgSlots, wipeE, List.set_cons_zero, List.set_cons_succ, List.set_nil, List.take_nil, List.take_zero, m_f, m_t, r_int, r_bl, r_str, r_non, r_tup, r_lstf, r_lstt, r_v, r_newf, r_newt, List.any_cons, List.any_nil, owned, Bool.or_false, Bool.false_or, fl_bl, fl_int, fl_str, fl_non, fl_rs, exists_eq', Ct.lst.injEq, Ct.ob.injEq, D.kst.injEq, List.take_succ_cons, dat_lst, dat_ob, dat_fz, Option.some.injEq, SV.d.injEq, D.int.injEq, forall_eq', reduceCtorEq, false_implies, forall_const, Bool.false_eq_true, List.set, if_true, if_false, Bool.not_true, Bool.not_false]
      refine ⟨divOk_of (by decide) (by decide), mul_of 10 10 (by omega) (by omega) (by decide), by decide, _, sizeLine_big (by decide), rfl, sizeLine_lt (by rw [List.length_map, letts_len]; omega), ?_⟩
      unfold letts
      rw [List.range_succ]
      simp
    · rintro acc rfl
      rw [rng_len]
      have lm := letts_len (c := c / 9000) (s := s) (j := many.toNat)
      refine ⟨(letts (c / 9000) s many.toNat).map ch, by simp, ?_, ?_⟩
      · have e : (((letts (c / 9000) s many.toNat).map ch).map (·.length)).sum = many.toNat := by
          rw [List.map_map]
          have e3 : ((fun x : Str => x.length) ∘ ch) = fun _ => 1 := rfl
          rw [e3, List.map_const', List.sum_replicate_nat, lm, Nat.mul_one]
        rw [e, List.length_map, lm, empty_str]
        show many.toNat + many.toNat * 0 ≤ _
        omega
      · rw [empty_str, join_chs]
        refine h _ (letts_nodup (by omega) hs) (by rw [lm]; omega) (by rw [lm]; omega) fun x hx => ?_
        unfold letts at hx
        obtain ⟨a, _, rfl⟩ := List.mem_map.mp hx
        have m26 := Int.emod_lt_of_pos (c / 9000 + s * (a : Int)) (show (0 : Int) < 26 by decide)
        omega
  simp only [e1, fnT, startE, List.length_cons, List.length_nil, List.map_cons, List.map_nil, List.cons_append, List.nil_append, Nat.sub_self, Nat.reduceSub, Nat.reduceAdd, Nat.reduceLT, List.replicate_zero, List.reduceReplicate, List.replicate_succ, wpSs, wpS, wpE, wpEs, wpT, wpI, wpC, List.getElem?_cons_zero, List.getElem?_cons_succ, List.getElem?_nil, den, dens, back, true_and, and_true, nrmE, nrmT, frzSlots, cutV1, frzT, frzL, eq_ii, eq_bb, eq_ss, eq_nn, D.isNon, o_add, o_adds, o_addl, o_sub, o_addt, n_split, n_find, o_mul, o_rep, o_div, o_mod, o_pow, c_lt, c_le, c_gt, c_ge, c_lts, c_eq, c_ne, c_is, c_isnot, c_in, c_notin, t_bl, t_non, t_int, t_lst, t_tup, x_lst, x_tup, x_scr, x_str, u_lst, u_scr, u_str, b_lenl, b_lent, b_lenc, b_lens, b_abs, b_max2, b_min2, b_int, b_inb, b_tup, b_srtk, i_lst, i_tup, i_scr, is_n, is_b, exists_eq_left', exists_eq_left, exists_eq_right, Option.some.injEq,  partD, setS, setAll, tgD, tgSlots, wipeE, List.set_cons_zero, List.set_cons_succ, List.set_nil, List.take_nil, List.take_zero, m_f, m_t, r_int, r_bl, r_str, r_non, r_tup, r_lstf, r_lstt, r_v, r_newf, r_newt, List.any_cons, List.any_nil, owned, Bool.or_false, Bool.false_or, fl_bl, fl_int, fl_str, fl_non, fl_rs, exists_eq', Ct.lst.injEq, Ct.ob.injEq, D.kst.injEq, List.take_succ_cons, dat_lst, dat_ob, dat_fz, Option.some.injEq, SV.d.injEq, D.int.injEq, forall_eq', reduceCtorEq, false_implies, forall_const, Bool.false_eq_true, List.set, if_true, if_false, Bool.not_true, Bool.not_false]
  exact ⟨sizeLine_big (by decide), by decide, divOk_of (by decide) (by decide), by decide, fun _ => ⟨divOk_of (by decide) (by decide), by decide, rest _ none (by omega) (by omega)⟩, fun _ => rest _ none g1 g2⟩
end K03

namespace K03
open PySem L2 PD
theorem s_divisor {n : Nat} {a m : Int} {k z} (hm : 0 < m) (h : k (.v (.int (Int.gcd a m)))) : wpF fnT gcT (n+1) 0 [.int a, .int m] k z := by
  unfold wpF
  simp only [f0, b0, fnT, startE, List.length_cons, List.length_nil, List.map_cons, List.map_nil, List.cons_append, List.nil_append, Nat.sub_self, Nat.reduceSub, Nat.reduceAdd, Nat.reduceLT, List.replicate_zero, List.reduceReplicate, List.replicate_succ, wpSs, wpS, wpE, wpEs, wpT, wpI, wpC, List.getElem?_cons_zero, List.getElem?_cons_succ, List.getElem?_nil, den, dens, back, true_and, and_true, nrmE, nrmT, frzSlots, cutV1, frzT, frzL, eq_ii, eq_bb, eq_ss, eq_nn, D.isNon, o_add, o_adds, o_addl, o_sub, o_addt, n_split, n_find, o_mul, o_rep, o_div, o_mod, o_pow, c_lt, c_le, c_gt, c_ge, c_lts, c_eq, c_ne, c_is, c_isnot, c_in, c_notin, t_bl, t_non, t_int, t_lst, t_tup, x_lst, x_tup, x_scr, x_str, u_lst, u_scr, u_str, b_lenl, b_lent, b_lenc, b_lens, b_abs, b_max2, b_min2, b_int, b_inb, b_tup, b_srtk, i_lst, i_tup, i_scr, is_n, is_b, exists_eq_left', exists_eq_left, exists_eq_right, Option.some.injEq,  partD, setS, setAll, tgD, tgSlots, wipeE, List.set_cons_zero, List.set_cons_succ, List.set_nil, List.take_nil, List.take_zero, m_f, m_t, r_int, r_bl, r_str, r_non, r_tup, r_lstf, r_lstt, r_v, r_newf, r_newt, List.any_cons, List.any_nil, owned, Bool.or_false, Bool.false_or, fl_bl, fl_int, fl_str, fl_non, fl_rs, exists_eq', Ct.lst.injEq, Ct.ob.injEq, D.kst.injEq, List.take_succ_cons, dat_lst, dat_ob, dat_fz, Option.some.injEq, SV.d.injEq, D.int.injEq, forall_eq', reduceCtorEq, false_implies, forall_const, Bool.false_eq_true, List.set, if_true, if_false, Bool.not_true, Bool.not_false]
  refine ⟨fun c e l => l = [] ∧ ∃ x y : Int, e = [some (.d (.int x)), some (.d (.int y))] ∧ 0 ≤ y ∧ c = y.toNat ∧ Int.gcd x y = Int.gcd a m, ⟨_, rfl, a, m, rfl, Int.le_of_lt hm, rfl, rfl⟩, ?_⟩
  rintro c e l ⟨rfl, x, y, rfl, hy, rfl, hg⟩
  simp only [b0_0, b0_1, fnT, startE, List.length_cons, List.length_nil, List.map_cons, List.map_nil, List.cons_append, List.nil_append, Nat.sub_self, Nat.reduceSub, Nat.reduceAdd, Nat.reduceLT, List.replicate_zero, List.reduceReplicate, List.replicate_succ, wpSs, wpS, wpE, wpEs, wpT, wpI, wpC, List.getElem?_cons_zero, List.getElem?_cons_succ, List.getElem?_nil, den, dens, back, true_and, and_true, nrmE, nrmT, frzSlots, cutV1, frzT, frzL, eq_ii, eq_bb, eq_ss, eq_nn, D.isNon, o_add, o_adds, o_addl, o_sub, o_addt, n_split, n_find, o_mul, o_rep, o_div, o_mod, o_pow, c_lt, c_le, c_gt, c_ge, c_lts, c_eq, c_ne, c_is, c_isnot, c_in, c_notin, t_bl, t_non, t_int, t_lst, t_tup, x_lst, x_tup, x_scr, x_str, u_lst, u_scr, u_str, b_lenl, b_lent, b_lenc, b_lens, b_abs, b_max2, b_min2, b_int, b_inb, b_tup, b_srtk, i_lst, i_tup, i_scr, is_n, is_b, exists_eq_left', exists_eq_left, exists_eq_right, Option.some.injEq,  partD, setS, setAll, tgD, tgSlots, wipeE, List.set_cons_zero, List.set_cons_succ, List.set_nil, List.take_nil, List.take_zero, m_f, m_t, r_int, r_bl, r_str, r_non, r_tup, r_lstf, r_lstt, r_v, r_newf, r_newt, List.any_cons, List.any_nil, owned, Bool.or_false, Bool.false_or, fl_bl, fl_int, fl_str, fl_non, fl_rs, exists_eq', Ct.lst.injEq, Ct.ob.injEq, D.kst.injEq, List.take_succ_cons, dat_lst, dat_ob, dat_fz, Option.some.injEq, SV.d.injEq, D.int.injEq, forall_eq', reduceCtorEq, false_implies, forall_const, Bool.false_eq_true, List.set, if_true, if_false, Bool.not_true, Bool.not_false]
  refine ⟨fun h0 => ?_, fun h0 => ?_⟩
  · have y0 : y ≠ 0 := by simpa using h0
    have yp : 0 < y := by omega
    have l1 := Int.emod_lt_of_pos x yp
    have l2 := Int.emod_nonneg x y0
    exact ⟨yp, _, by omega, y, x % y, rfl, l2, rfl, by rw [gcd_step]; exact hg⟩
  · have y0 : y = 0 := by simpa using h0
    subst y0
    have e : (if x < 0 then -x else x) = (Int.gcd a m : Int) := by
      rw [← hg, Int.gcd_zero_right]; omega
    rw [e]
    exact h
/-- a weight fits behind these -/
def fit (ws : List Int) (w m : Int) : Prop := Int.gcd w m = 1 ∧ (ws = [] ∨ ∃ p, ws.getLast? = some p ∧ Int.gcd (p - w) m = 1)
noncomputable def fitB (ws : List Int) (w m : Int) : Bool := @decide (fit ws w m) (Classical.propDecidable _)
theorem fitB_iff {ws : List Int} {w m : Int} : fitB ws w m = true ↔ fit ws w m := by unfold fitB; simp
theorem atI_last {xs : List Int} {p : Int} (h : xs.getLast? = some p) : atI xs (-1) = some p := by
  have ne : xs ≠ [] := fun z => by rw [z] at h; cases h
  have hl : 0 < xs.length := List.length_pos_iff.mpr ne
  have e : ixN xs.length (-1) = some (xs.length - 1) := by
    unfold ixN
    rw [if_neg (by decide), if_pos (by omega)]
    congr 1
    omega
  unfold atI
  rw [e]
  rw [List.getLast?_eq_getElem?] at h
  exact h
theorem s_fits {n : Nat} {ws : List Int} {w m : Int} {k z} (hm : 0 < m) (h : k (.v (.bl (fitB ws w m)))) : wpF fnT gcT (n+2) 1 [.lst (iL ws), .int w, .int m] k z := by
  unfold wpF
  simp only [f1, b1, fnT, startE, List.length_cons, List.length_nil, List.map_cons, List.map_nil, List.cons_append, List.nil_append, Nat.sub_self, Nat.reduceSub, Nat.reduceAdd, Nat.reduceLT, List.replicate_zero, List.reduceReplicate, List.replicate_succ, wpSs, wpS, wpE, wpEs, wpT, wpI, wpC, List.getElem?_cons_zero, List.getElem?_cons_succ, List.getElem?_nil, den, dens, back, true_and, and_true, nrmE, nrmT, frzSlots, cutV1, frzT, frzL, eq_ii, eq_bb, eq_ss, eq_nn, D.isNon, o_add, o_adds, o_addl, o_sub, o_addt, n_split, n_find, o_mul, o_rep, o_div, o_mod, o_pow, c_lt, c_le, c_gt, c_ge, c_lts, c_eq, c_ne, c_is, c_isnot, c_in, c_notin, t_bl, t_non, t_int, t_lst, t_tup, x_lst, x_tup, x_scr, x_str, u_lst, u_scr, u_str, b_lenl, b_lent, b_lenc, b_lens, b_abs, b_max2, b_min2, b_int, b_inb, b_tup, b_srtk, i_lst, i_tup, i_scr, is_n, is_b, exists_eq_left', exists_eq_left, exists_eq_right, Option.some.injEq,  partD, setS, setAll, tgD, tgSlots, wipeE, List.set_cons_zero, List.set_cons_succ, List.set_nil, List.take_nil, List.take_zero, m_f, m_t, r_int, r_bl, r_str, r_non, r_tup, r_lstf, r_lstt, r_v, r_newf, r_newt, List.any_cons, List.any_nil, owned, Bool.or_false, Bool.false_or, fl_bl, fl_int, fl_str, fl_non, fl_rs, exists_eq', Ct.lst.injEq, Ct.ob.injEq, D.kst.injEq, List.take_succ_cons, dat_lst, dat_ob, dat_fz, Option.some.injEq, SV.d.injEq, D.int.injEq, forall_eq', reduceCtorEq, false_implies, forall_const, Bool.false_eq_true, List.set, if_true, if_false, Bool.not_true, Bool.not_false]
  refine s_divisor hm ?_
  simp only [fnT, startE, List.length_cons, List.length_nil, List.map_cons, List.map_nil, List.cons_append, List.nil_append, Nat.sub_self, Nat.reduceSub, Nat.reduceAdd, Nat.reduceLT, List.replicate_zero, List.reduceReplicate, List.replicate_succ, wpSs, wpS, wpE, wpEs, wpT, wpI, wpC, List.getElem?_cons_zero, List.getElem?_cons_succ, List.getElem?_nil, den, dens, back, true_and, and_true, nrmE, nrmT, frzSlots, cutV1, frzT, frzL, eq_ii, eq_bb, eq_ss, eq_nn, D.isNon, o_add, o_adds, o_addl, o_sub, o_addt, n_split, n_find, o_mul, o_rep, o_div, o_mod, o_pow, c_lt, c_le, c_gt, c_ge, c_lts, c_eq, c_ne, c_is, c_isnot, c_in, c_notin, t_bl, t_non, t_int, t_lst, t_tup, x_lst, x_tup, x_scr, x_str, u_lst, u_scr, u_str, b_lenl, b_lent, b_lenc, b_lens, b_abs, b_max2, b_min2, b_int, b_inb, b_tup, b_srtk, i_lst, i_tup, i_scr, is_n, is_b, exists_eq_left', exists_eq_left, exists_eq_right, Option.some.injEq,  partD, setS, setAll, tgD, tgSlots, wipeE, List.set_cons_zero, List.set_cons_succ, List.set_nil, List.take_nil, List.take_zero, m_f, m_t, r_int, r_bl, r_str, r_non, r_tup, r_lstf, r_lstt, r_v, r_newf, r_newt, List.any_cons, List.any_nil, owned, Bool.or_false, Bool.false_or, fl_bl, fl_int, fl_str, fl_non, fl_rs, exists_eq', Ct.lst.injEq, Ct.ob.injEq, D.kst.injEq, List.take_succ_cons, dat_lst, dat_ob, dat_fz, Option.some.injEq, SV.d.injEq, D.int.injEq, forall_eq', reduceCtorEq, false_implies, forall_const, Bool.false_eq_true, List.set, if_true, if_false, Bool.not_true, Bool.not_false]
  refine ⟨fun h0 => ?_, fun h0 => ?_⟩
  · have h1 : ¬ Int.gcd w m = 1 := fun q => by simp [q] at h0
    have e : fitB ws w m = false := by
      rw [← Bool.not_eq_true, fitB_iff]
      exact fun z => h1 z.1
    rw [e] at h
    simpa using h
  · have h1 : Int.gcd w m = 1 := by simp at h0; omega
    refine ⟨Nat.zero_le _, eq_ints (xs := ws) (ys := []) ?_⟩
    refine ⟨fun h2 => ?_, fun h2 => ?_⟩
    · have h2 : ws = [] := by simpa using h2
      have e : fitB ws w m = true := fitB_iff.mpr ⟨h1, .inl h2⟩
      rw [e] at h
      exact h
    · have h2 : ws ≠ [] := by simpa using h2
      obtain ⟨p, hp⟩ : ∃ p, ws.getLast? = some p := ⟨_, List.getLast?_eq_some_getLast h2⟩
      refine ⟨.int p, by rw [atI_ints, show -(1:Int) = -1 from rfl, atI_last hp]; rfl, ?_⟩
      simp only [fnT, startE, List.length_cons, List.length_nil, List.map_cons, List.map_nil, List.cons_append, List.nil_append, Nat.sub_self, Nat.reduceSub, Nat.reduceAdd, Nat.reduceLT, List.replicate_zero, List.reduceReplicate, List.replicate_succ, wpSs, wpS, wpE, wpEs, wpT, wpI, wpC, List.getElem?_cons_zero, List.getElem?_cons_succ, List.getElem?_nil, den, dens, back, true_and, and_true, nrmE, nrmT, frzSlots, cutV1, frzT, frzL, eq_ii, eq_bb, eq_ss, eq_nn, D.isNon, o_add, o_adds, o_addl, o_sub, o_addt, n_split, n_find, o_mul, o_rep, o_div, o_mod, o_pow, c_lt, c_le, c_gt, c_ge, c_lts, c_eq, c_ne, c_is, c_isnot, c_in, c_notin, t_bl, t_non, t_int, t_lst, t_tup, x_lst, x_tup, x_scr, x_str, u_lst, u_scr, u_str, b_lenl, b_lent, b_lenc, b_lens, b_abs, b_max2, b_min2, b_int, b_inb, b_tup, b_srtk, i_lst, i_tup, i_scr, is_n, is_b, exists_eq_left', exists_eq_left, exists_eq_right, Option.some.injEq,  partD, setS, setAll, tgD, tgSlots, wipeE, List.set_cons_zero, List.set_cons_succ, List.set_nil, List.take_nil, List.take_zero, m_f, m_t, r_int, r_bl, r_str, r_non, r_tup, r_lstf, r_lstt, r_v, r_newf, r_newt, List.any_cons, List.any_nil, owned, Bool.or_false, Bool.false_or, fl_bl, fl_int, fl_str, fl_non, fl_rs, exists_eq', Ct.lst.injEq, Ct.ob.injEq, D.kst.injEq, List.take_succ_cons, dat_lst, dat_ob, dat_fz, Option.some.injEq, SV.d.injEq, D.int.injEq, forall_eq', reduceCtorEq, false_implies, forall_const, Bool.false_eq_true, List.set, if_true, if_false, Bool.not_true, Bool.not_false]
      refine s_divisor hm ?_
      simp only [fnT, startE, List.length_cons, List.length_nil, List.map_cons, List.map_nil, List.cons_append, List.nil_append, Nat.sub_self, Nat.reduceSub, Nat.reduceAdd, Nat.reduceLT, List.replicate_zero, List.reduceReplicate, List.replicate_succ, wpSs, wpS, wpE, wpEs, wpT, wpI, wpC, List.getElem?_cons_zero, List.getElem?_cons_succ, List.getElem?_nil, den, dens, back, true_and, and_true, nrmE, nrmT, frzSlots, cutV1, frzT, frzL, eq_ii, eq_bb, eq_ss, eq_nn, D.isNon, o_add, o_adds, o_addl, o_sub, o_addt, n_split, n_find, o_mul, o_rep, o_div, o_mod, o_pow, c_lt, c_le, c_gt, c_ge, c_lts, c_eq, c_ne, c_is, c_isnot, c_in, c_notin, t_bl, t_non, t_int, t_lst, t_tup, x_lst, x_tup, x_scr, x_str, u_lst, u_scr, u_str, b_lenl, b_lent, b_lenc, b_lens, b_abs, b_max2, b_min2, b_int, b_inb, b_tup, b_srtk, i_lst, i_tup, i_scr, is_n, is_b, exists_eq_left', exists_eq_left, exists_eq_right, Option.some.injEq,  partD, setS, setAll, tgD, tgSlots, wipeE, List.set_cons_zero, List.set_cons_succ, List.set_nil, List.take_nil, List.take_zero, m_f, m_t, r_int, r_bl, r_str, r_non, r_tup, r_lstf, r_lstt, r_v, r_newf, r_newt, List.any_cons, List.any_nil, owned, Bool.or_false, Bool.false_or, fl_bl, fl_int, fl_str, fl_non, fl_rs, exists_eq', Ct.lst.injEq, Ct.ob.injEq, D.kst.injEq, List.take_succ_cons, dat_lst, dat_ob, dat_fz, Option.some.injEq, SV.d.injEq, D.int.injEq, forall_eq', reduceCtorEq, false_implies, forall_const, Bool.false_eq_true, List.set, if_true, if_false, Bool.not_true, Bool.not_false]
      have e : fitB ws w m = decide (Int.gcd (p - w) m = 1) := by
        by_cases q : Int.gcd (p - w) m = 1
        · rw [decide_eq_true q]; exact fitB_iff.mpr ⟨h1, .inr ⟨p, hp, q⟩⟩
        · rw [decide_eq_false q, ← Bool.not_eq_true, fitB_iff]
          rintro ⟨_, z | ⟨p', hp', z⟩⟩
          · exact h2 z
          · rw [hp] at hp'; cases hp'; exact q z
      rw [e] at h
      have e2 : ((Int.gcd (p - w) m : Int) == 1) = decide (Int.gcd (p - w) m = 1) := by
        by_cases q : Int.gcd (p - w) m = 1 <;> simp [q] <;> omega
      rw [e2]
      exact h
/-- all are safe -/
def Safe (ws : List Int) (m : Int) : Prop := ∀ i w, ws[i]? = some w → fit (ws.take i) w m
noncomputable def safeB (ws : List Int) (m : Int) : Bool := @decide (Safe ws m) (Classical.propDecidable _)
theorem safeB_iff {ws : List Int} {m : Int} : safeB ws m = true ↔ Safe ws m := by unfold safeB; simp
theorem s_are_safe {n : Nat} {ws : List Int} {m : Int} {k z} (hm : 0 < m) (h : k (.v (.bl (safeB ws m)))) : wpF fnT gcT (n+3) 2 [.lst (iL ws), .int m] k z := by
  unfold wpF
  simp only [f2, b2, fnT, startE, List.length_cons, List.length_nil, List.map_cons, List.map_nil, List.cons_append, List.nil_append, Nat.sub_self, Nat.reduceSub, Nat.reduceAdd, Nat.reduceLT, List.replicate_zero, List.reduceReplicate, List.replicate_succ, wpSs, wpS, wpE, wpEs, wpT, wpI, wpC, List.getElem?_cons_zero, List.getElem?_cons_succ, List.getElem?_nil, den, dens, back, true_and, and_true, nrmE, nrmT, frzSlots, cutV1, frzT, frzL, eq_ii, eq_bb, eq_ss, eq_nn, D.isNon, o_add, o_adds, o_addl, o_sub, o_addt, n_split, n_find, o_mul, o_rep, o_div, o_mod, o_pow, c_lt, c_le, c_gt, c_ge, c_lts, c_eq, c_ne, c_is, c_isnot, c_in, c_notin, t_bl, t_non, t_int, t_lst, t_tup, x_lst, x_tup, x_scr, x_str, u_lst, u_scr, u_str, b_lenl, b_lent, b_lenc, b_lens, b_abs, b_max2, b_min2, b_int, b_inb, b_tup, b_srtk, i_lst, i_tup, i_scr, is_n, is_b, exists_eq_left', exists_eq_left, exists_eq_right, Option.some.injEq,  partD, setS, setAll, tgD, tgSlots, wipeE, List.set_cons_zero, List.set_cons_succ, List.set_nil, List.take_nil, List.take_zero, m_f, m_t, r_int, r_bl, r_str, r_non, r_tup, r_lstf, r_lstt, r_v, r_newf, r_newt, List.any_cons, List.any_nil, owned, Bool.or_false, Bool.false_or, fl_bl, fl_int, fl_str, fl_non, fl_rs, exists_eq', Ct.lst.injEq, Ct.ob.injEq, D.kst.injEq, List.take_succ_cons, dat_lst, dat_ob, dat_fz, Option.some.injEq, SV.d.injEq, D.int.injEq, forall_eq', reduceCtorEq, false_implies, forall_const, Bool.false_eq_true, List.set, if_true, if_false, Bool.not_true, Bool.not_false]
  refine ⟨fun i e l => l = [] ∧ (∃ u v, e = [some (.d (.lst (iL ws))), some (.d (.int m)), u, v]) ∧ ∀ j w, j < i → ws[j]? = some w → fit (ws.take j) w m, ⟨rfl, ⟨none, none, rfl⟩, fun j w hj => by omega⟩, ?_, ?_⟩
  · rintro i x e l hx ⟨rfl, ⟨u, v, rfl⟩, ih⟩
    obtain ⟨w, hw, rfl⟩ : ∃ w, ws[i]? = some w ∧ x = .tup [.int (i : Int), .int w] := by
      simp [List.getElem?_map, List.getElem?_zipIdx] at hx
      obtain ⟨a, h1, h2⟩ := hx
      exact ⟨a, h1, by rw [← h2]⟩
    simp only [b2_0, fnT, startE, List.length_cons, List.length_nil, List.map_cons, List.map_nil, List.cons_append, List.nil_append, Nat.sub_self, Nat.reduceSub, Nat.reduceAdd, Nat.reduceLT, List.replicate_zero, List.reduceReplicate, List.replicate_succ, wpSs, wpS, wpE, wpEs, wpT, wpI, wpC, List.getElem?_cons_zero, List.getElem?_cons_succ, List.getElem?_nil, den, dens, back, true_and, and_true, nrmE, nrmT, frzSlots, cutV1, frzT, frzL, eq_ii, eq_bb, eq_ss, eq_nn, D.isNon, o_add, o_adds, o_addl, o_sub, o_addt, n_split, n_find, o_mul, o_rep, o_div, o_mod, o_pow, c_lt, c_le, c_gt, c_ge, c_lts, c_eq, c_ne, c_is, c_isnot, c_in, c_notin, t_bl, t_non, t_int, t_lst, t_tup, x_lst, x_tup, x_scr, x_str, u_lst, u_scr, u_str, b_lenl, b_lent, b_lenc, b_lens, b_abs, b_max2, b_min2, b_int, b_inb, b_tup, b_srtk, i_lst, i_tup, i_scr, is_n, is_b, exists_eq_left', exists_eq_left, exists_eq_right, Option.some.injEq,  partD, setS, setAll, tgD, tgSlots, wipeE, List.set_cons_zero, List.set_cons_succ, List.set_nil, List.take_nil, List.take_zero, m_f, m_t, r_int, r_bl, r_str, r_non, r_tup, r_lstf, r_lstt, r_v, r_newf, r_newt, List.any_cons, List.any_nil, owned, Bool.or_false, Bool.false_or, fl_bl, fl_int, fl_str, fl_non, fl_rs, exists_eq', Ct.lst.injEq, Ct.ob.injEq, D.kst.injEq, List.take_succ_cons, dat_lst, dat_ob, dat_fz, Option.some.injEq, SV.d.injEq, D.int.injEq, forall_eq', reduceCtorEq, false_implies, forall_const, Bool.false_eq_true, List.set, if_true, if_false, Bool.not_true, Bool.not_false]
    rw [cut_take, ← List.map_take]
    refine s_fits hm ?_
    simp only [fnT, startE, List.length_cons, List.length_nil, List.map_cons, List.map_nil, List.cons_append, List.nil_append, Nat.sub_self, Nat.reduceSub, Nat.reduceAdd, Nat.reduceLT, List.replicate_zero, List.reduceReplicate, List.replicate_succ, wpSs, wpS, wpE, wpEs, wpT, wpI, wpC, List.getElem?_cons_zero, List.getElem?_cons_succ, List.getElem?_nil, den, dens, back, true_and, and_true, nrmE, nrmT, frzSlots, cutV1, frzT, frzL, eq_ii, eq_bb, eq_ss, eq_nn, D.isNon, o_add, o_adds, o_addl, o_sub, o_addt, n_split, n_find, o_mul, o_rep, o_div, o_mod, o_pow, c_lt, c_le, c_gt, c_ge, c_lts, c_eq, c_ne, c_is, c_isnot, c_in, c_notin, t_bl, t_non, t_int, t_lst, t_tup, x_lst, x_tup, x_scr, x_str, u_lst, u_scr, u_str, b_lenl, b_lent, b_lenc, b_lens, b_abs, b_max2, b_min2, b_int, b_inb, b_tup, b_srtk, i_lst, i_tup, i_scr, is_n, is_b, exists_eq_left', exists_eq_left, exists_eq_right, Option.some.injEq,  partD, setS, setAll, tgD, tgSlots, wipeE, List.set_cons_zero, List.set_cons_succ, List.set_nil, List.take_nil, List.take_zero, m_f, m_t, r_int, r_bl, r_str, r_non, r_tup, r_lstf, r_lstt, r_v, r_newf, r_newt, List.any_cons, List.any_nil, owned, Bool.or_false, Bool.false_or, fl_bl, fl_int, fl_str, fl_non, fl_rs, exists_eq', Ct.lst.injEq, Ct.ob.injEq, D.kst.injEq, List.take_succ_cons, dat_lst, dat_ob, dat_fz, Option.some.injEq, SV.d.injEq, D.int.injEq, forall_eq', reduceCtorEq, false_implies, forall_const, Bool.false_eq_true, List.set, if_true, if_false, Bool.not_true, Bool.not_false]
    refine ⟨fun h0 => ?_, fun h0 => ?_⟩
    · have h0 : ¬ fit (ws.take i) w m := by
        rw [← fitB_iff]; simpa using h0
      have e : safeB ws m = false := by
        rw [← Bool.not_eq_true, safeB_iff]
        exact fun z => h0 (z i w hw)
      rw [e] at h
      exact h
    · have h0 : fit (ws.take i) w m := by
        rw [← fitB_iff]; simpa using h0
      refine ⟨⟨_, _, rfl⟩, fun j w' hj hw' => ?_⟩
      by_cases q : j = i
      · subst q; rw [hw] at hw'; cases hw'; exact h0
      · exact ih j w' (by omega) hw'
  · rintro e l ⟨rfl, ⟨u, v, rfl⟩, ih⟩
    have e : safeB ws m = true := safeB_iff.mpr fun i w hw => ih i w (by
      have hi : i < ws.length := (List.getElem?_eq_some_iff.mp hw).1
      simpa using hi) hw
    rw [e] at h
    exact h
theorem fit_take {ws : List Int} {i : Nat} {w m : Int} (hi : i < ws.length) : fit (ws.take i) w m ↔ Int.gcd w m = 1 ∧ (i = 0 ∨ ∃ p, ws[i - 1]? = some p ∧ Int.gcd (p - w) m = 1) := by
  unfold fit
  have e : (ws.take i = []) ↔ i = 0 := by
    rw [List.take_eq_nil_iff]
    constructor
    · rintro (h | h)
      · exact h
      · rw [h] at hi; simp at hi
    · exact .inl
  rw [e]
  by_cases z : i = 0
  · simp [z]
  · have e2 : (ws.take i).getLast? = ws[i - 1]? := by
      rw [List.getLast?_eq_getElem?, List.length_take, Nat.min_eq_left (by omega), List.getElem?_take_of_lt (by omega)]
    rw [e2]
theorem s_lsafe {n : Nat} {ws : List Int} {m : Int} {k z} (hm : 0 < m) (hl : ws.length < 1000) (h : k (.v (.bl (safeB ws m)))) : wpF fnT gcT (n+3) 13 [.lst (iL ws), .int m] k z := by
  unfold wpF
  simp only [f13, b13, len_ints, fnT, startE, List.length_cons, List.length_nil, List.map_cons, List.map_nil, List.cons_append, List.nil_append, Nat.sub_self, Nat.reduceSub, Nat.reduceAdd, Nat.reduceLT, List.replicate_zero, List.reduceReplicate, List.replicate_succ, wpSs, wpS, wpE, wpEs, wpT, wpI, wpC, List.getElem?_cons_zero, List.getElem?_cons_succ, List.getElem?_nil, den, dens, back, true_and, and_true, nrmE, nrmT, frzSlots, cutV1, frzT, frzL, eq_ii, eq_bb, eq_ss, eq_nn, D.isNon, o_add, o_adds, o_addl, o_sub, o_addt, n_split, n_find, o_mul, o_rep, o_div, o_mod, o_pow, c_lt, c_le, c_gt, c_ge, c_lts, c_eq, c_ne, c_is, c_isnot, c_in, c_notin, t_bl, t_non, t_int, t_lst, t_tup, x_lst, x_tup, x_scr, x_str, u_lst, u_scr, u_str, b_lenl, b_lent, b_lenc, b_lens, b_abs, b_max2, b_min2, b_int, b_inb, b_tup, b_srtk, i_lst, i_tup, i_scr, is_n, is_b, exists_eq_left', exists_eq_left, exists_eq_right, Option.some.injEq,  partD, setS, setAll, tgD, tgSlots, wipeE, List.set_cons_zero, List.set_cons_succ, List.set_nil, List.take_nil, List.take_zero, m_f, m_t, r_int, r_bl, r_str, r_non, r_tup, r_lstf, r_lstt, r_v, r_newf, r_newt, List.any_cons, List.any_nil, owned, Bool.or_false, Bool.false_or, fl_bl, fl_int, fl_str, fl_non, fl_rs, exists_eq', Ct.lst.injEq, Ct.ob.injEq, D.kst.injEq, List.take_succ_cons, dat_lst, dat_ob, dat_fz, Option.some.injEq, SV.d.injEq, D.int.injEq, forall_eq', reduceCtorEq, false_implies, forall_const, Bool.false_eq_true, List.set, if_true, if_false, Bool.not_true, Bool.not_false]
  refine ⟨by omega, by omega, fun i e l => l = [] ∧ (∃ u, e = [some (.d (.lst (iL ws))), some (.d (.int m)), u]) ∧ ∀ j w, j < i → ws[j]? = some w → fit (ws.take j) w m, ⟨rfl, ⟨none, rfl⟩, fun j w hj => by omega⟩, ?_, ?_⟩
  · rintro i x e l hx ⟨rfl, ⟨u, rfl⟩, ih⟩
    obtain ⟨hi, rfl⟩ := rng_it hx
    rw [Int.toNat_natCast] at hi
    have hw : ws[i]? = some ws[i] := List.getElem?_eq_getElem hi
    generalize ws[i] = w at hw
    have a1 : atI (iL ws) (i : Int) = some (.int w) := by rw [atI_ints, getl hw]; rfl
    simp only [b13_0, a1, fnT, startE, List.length_cons, List.length_nil, List.map_cons, List.map_nil, List.cons_append, List.nil_append, Nat.sub_self, Nat.reduceSub, Nat.reduceAdd, Nat.reduceLT, List.replicate_zero, List.reduceReplicate, List.replicate_succ, wpSs, wpS, wpE, wpEs, wpT, wpI, wpC, List.getElem?_cons_zero, List.getElem?_cons_succ, List.getElem?_nil, den, dens, back, true_and, and_true, nrmE, nrmT, frzSlots, cutV1, frzT, frzL, eq_ii, eq_bb, eq_ss, eq_nn, D.isNon, o_add, o_adds, o_addl, o_sub, o_addt, n_split, n_find, o_mul, o_rep, o_div, o_mod, o_pow, c_lt, c_le, c_gt, c_ge, c_lts, c_eq, c_ne, c_is, c_isnot, c_in, c_notin, t_bl, t_non, t_int, t_lst, t_tup, x_lst, x_tup, x_scr, x_str, u_lst, u_scr, u_str, b_lenl, b_lent, b_lenc, b_lens, b_abs, b_max2, b_min2, b_int, b_inb, b_tup, b_srtk, i_lst, i_tup, i_scr, is_n, is_b, exists_eq_left', exists_eq_left, exists_eq_right, Option.some.injEq,  partD, setS, setAll, tgD, tgSlots, wipeE, List.set_cons_zero, List.set_cons_succ, List.set_nil, List.take_nil, List.take_zero, m_f, m_t, r_int, r_bl, r_str, r_non, r_tup, r_lstf, r_lstt, r_v, r_newf, r_newt, List.any_cons, List.any_nil, owned, Bool.or_false, Bool.false_or, fl_bl, fl_int, fl_str, fl_non, fl_rs, exists_eq', Ct.lst.injEq, Ct.ob.injEq, D.kst.injEq, List.take_succ_cons, dat_lst, dat_ob, dat_fz, Option.some.injEq, SV.d.injEq, D.int.injEq, forall_eq', reduceCtorEq, false_implies, forall_const, Bool.false_eq_true, List.set, if_true, if_false, Bool.not_true, Bool.not_false]
    refine s_apart hm ?_
    have bad : ¬ fit (ws.take i) w m → k (.v (.bl false)) := fun h0 => by
      have e : safeB ws m = false := by
        rw [← Bool.not_eq_true, safeB_iff]
        exact fun z => h0 (z i w hw)
      rw [e] at h
      exact h
    have good : fit (ws.take i) w m → ∀ j w', j < i + 1 → ws[j]? = some w' → fit (ws.take j) w' m := fun h0 j w' hj hw' => by
      by_cases q : j = i
      · subst q; rw [hw] at hw'; cases hw'; exact h0
      · exact ih j w' (by omega) hw'
    rw [fit_take hi] at bad good
    simp only [fnT, startE, List.length_cons, List.length_nil, List.map_cons, List.map_nil, List.cons_append, List.nil_append, Nat.sub_self, Nat.reduceSub, Nat.reduceAdd, Nat.reduceLT, List.replicate_zero, List.reduceReplicate, List.replicate_succ, wpSs, wpS, wpE, wpEs, wpT, wpI, wpC, List.getElem?_cons_zero, List.getElem?_cons_succ, List.getElem?_nil, den, dens, back, true_and, and_true, nrmE, nrmT, frzSlots, cutV1, frzT, frzL, eq_ii, eq_bb, eq_ss, eq_nn, D.isNon, o_add, o_adds, o_addl, o_sub, o_addt, n_split, n_find, o_mul, o_rep, o_div, o_mod, o_pow, c_lt, c_le, c_gt, c_ge, c_lts, c_eq, c_ne, c_is, c_isnot, c_in, c_notin, t_bl, t_non, t_int, t_lst, t_tup, x_lst, x_tup, x_scr, x_str, u_lst, u_scr, u_str, b_lenl, b_lent, b_lenc, b_lens, b_abs, b_max2, b_min2, b_int, b_inb, b_tup, b_srtk, i_lst, i_tup, i_scr, is_n, is_b, exists_eq_left', exists_eq_left, exists_eq_right, Option.some.injEq,  partD, setS, setAll, tgD, tgSlots, wipeE, List.set_cons_zero, List.set_cons_succ, List.set_nil, List.take_nil, List.take_zero, m_f, m_t, r_int, r_bl, r_str, r_non, r_tup, r_lstf, r_lstt, r_v, r_newf, r_newt, List.any_cons, List.any_nil, owned, Bool.or_false, Bool.false_or, fl_bl, fl_int, fl_str, fl_non, fl_rs, exists_eq', Ct.lst.injEq, Ct.ob.injEq, D.kst.injEq, List.take_succ_cons, dat_lst, dat_ob, dat_fz, Option.some.injEq, SV.d.injEq, D.int.injEq, forall_eq', reduceCtorEq, false_implies, forall_const, Bool.false_eq_true, List.set, if_true, if_false, Bool.not_true, Bool.not_false]
    refine ⟨fun h0 => ?_, fun h0 => ⟨fun h1 => ?_, fun h1 => ?_⟩⟩
    · exact bad fun q => by simp [q.1] at h0
    · have g1 : Int.gcd w m = 1 := by simpa using h0
      have h1 : i ≠ 0 := by simp at h1; omega
      have hi1 : i - 1 < ws.length := by omega
      have hp : ws[i - 1]? = some ws[i - 1] := List.getElem?_eq_getElem hi1
      generalize ws[i - 1] = p at hp
      have a2 : atI (iL ws) ((i : Int) - 1) = some (.int p) := by rw [show ((i : Int) - 1) = ((i - 1 : Nat) : Int) by omega, atI_ints, getl hp]; rfl
      simp only [a2, fnT, startE, List.length_cons, List.length_nil, List.map_cons, List.map_nil, List.cons_append, List.nil_append, Nat.sub_self, Nat.reduceSub, Nat.reduceAdd, Nat.reduceLT, List.replicate_zero, List.reduceReplicate, List.replicate_succ, wpSs, wpS, wpE, wpEs, wpT, wpI, wpC, List.getElem?_cons_zero, List.getElem?_cons_succ, List.getElem?_nil, den, dens, back, true_and, and_true, nrmE, nrmT, frzSlots, cutV1, frzT, frzL, eq_ii, eq_bb, eq_ss, eq_nn, D.isNon, o_add, o_adds, o_addl, o_sub, o_addt, n_split, n_find, o_mul, o_rep, o_div, o_mod, o_pow, c_lt, c_le, c_gt, c_ge, c_lts, c_eq, c_ne, c_is, c_isnot, c_in, c_notin, t_bl, t_non, t_int, t_lst, t_tup, x_lst, x_tup, x_scr, x_str, u_lst, u_scr, u_str, b_lenl, b_lent, b_lenc, b_lens, b_abs, b_max2, b_min2, b_int, b_inb, b_tup, b_srtk, i_lst, i_tup, i_scr, is_n, is_b, exists_eq_left', exists_eq_left, exists_eq_right, Option.some.injEq,  partD, setS, setAll, tgD, tgSlots, wipeE, List.set_cons_zero, List.set_cons_succ, List.set_nil, List.take_nil, List.take_zero, m_f, m_t, r_int, r_bl, r_str, r_non, r_tup, r_lstf, r_lstt, r_v, r_newf, r_newt, List.any_cons, List.any_nil, owned, Bool.or_false, Bool.false_or, fl_bl, fl_int, fl_str, fl_non, fl_rs, exists_eq', Ct.lst.injEq, Ct.ob.injEq, D.kst.injEq, List.take_succ_cons, dat_lst, dat_ob, dat_fz, Option.some.injEq, SV.d.injEq, D.int.injEq, forall_eq', reduceCtorEq, false_implies, forall_const, Bool.false_eq_true, List.set, if_true, if_false, Bool.not_true, Bool.not_false]
      refine s_apart hm ?_
      simp only [fnT, startE, List.length_cons, List.length_nil, List.map_cons, List.map_nil, List.cons_append, List.nil_append, Nat.sub_self, Nat.reduceSub, Nat.reduceAdd, Nat.reduceLT, List.replicate_zero, List.reduceReplicate, List.replicate_succ, wpSs, wpS, wpE, wpEs, wpT, wpI, wpC, List.getElem?_cons_zero, List.getElem?_cons_succ, List.getElem?_nil, den, dens, back, true_and, and_true, nrmE, nrmT, frzSlots, cutV1, frzT, frzL, eq_ii, eq_bb, eq_ss, eq_nn, D.isNon, o_add, o_adds, o_addl, o_sub, o_addt, n_split, n_find, o_mul, o_rep, o_div, o_mod, o_pow, c_lt, c_le, c_gt, c_ge, c_lts, c_eq, c_ne, c_is, c_isnot, c_in, c_notin, t_bl, t_non, t_int, t_lst, t_tup, x_lst, x_tup, x_scr, x_str, u_lst, u_scr, u_str, b_lenl, b_lent, b_lenc, b_lens, b_abs, b_max2, b_min2, b_int, b_inb, b_tup, b_srtk, i_lst, i_tup, i_scr, is_n, is_b, exists_eq_left', exists_eq_left, exists_eq_right, Option.some.injEq,  partD, setS, setAll, tgD, tgSlots, wipeE, List.set_cons_zero, List.set_cons_succ, List.set_nil, List.take_nil, List.take_zero, m_f, m_t, r_int, r_bl, r_str, r_non, r_tup, r_lstf, r_lstt, r_v, r_newf, r_newt, List.any_cons, List.any_nil, owned, Bool.or_false, Bool.false_or, fl_bl, fl_int, fl_str, fl_non, fl_rs, exists_eq', Ct.lst.injEq, Ct.ob.injEq, D.kst.injEq, List.take_succ_cons, dat_lst, dat_ob, dat_fz, Option.some.injEq, SV.d.injEq, D.int.injEq, forall_eq', reduceCtorEq, false_implies, forall_const, Bool.false_eq_true, List.set, if_true, if_false, Bool.not_true, Bool.not_false]
      refine ⟨fun h2 => ?_, fun h2 => ?_⟩
      · have h2 : ¬ Int.gcd (p - w) m = 1 := by rw [gcd_flip]; simpa using h2
        refine bad ?_
        rintro ⟨_, q | ⟨p', q1, q2⟩⟩
        · exact h1 q
        · rw [hp] at q1; cases q1; exact h2 q2
      · have h2 : Int.gcd (p - w) m = 1 := by rw [gcd_flip]; simpa using h2
        exact ⟨⟨_, rfl⟩, good ⟨g1, .inr ⟨p, hp, h2⟩⟩⟩
    · have g1 : Int.gcd w m = 1 := by simpa using h0
      have h1 : i = 0 := by simp at h1; omega
      exact ⟨⟨_, rfl⟩, good ⟨g1, .inl h1⟩⟩
  · rintro e l ⟨rfl, ⟨u, rfl⟩, ih⟩
    have e : safeB ws m = true := safeB_iff.mpr fun i w hw => ih i w (by
      have hi : i < ws.length := (List.getElem?_eq_some_iff.mp hw).1
      simpa using hi) hw
    rw [e] at h
    exact h

def dot (ws ps : List Int) : Int := ((ws.zip ps).map fun p => p.1 * p.2).sum
theorem mul_lt {ws : List Int} {m w v : Int} (hm : m ≤ 26) (h : 0 ≤ w ∧ w < m) (h' : 0 ≤ v ∧ v < m) : mulOk w v := mul_of 10 10 (by omega) (by omega) (by decide)
theorem s_lsum {n : Nat} {ws ps : List Int} {m : Int} {k z} (hm : m ≤ 26) (h1 : Lt ws m) (h2 : Lt ps m) (hl : ws.length = ps.length) (hl2 : ws.length ≤ 1000) (h : k (.v (.int (dot ws ps)))) : wpF fnT gcT (n+1) 17 [.lst (iL ws), .lst (iL ps)] k z := by
  unfold wpF
  simp only [f17, b17, len_ints, fnT, startE, List.length_cons, List.length_nil, List.map_cons, List.map_nil, List.cons_append, List.nil_append, Nat.sub_self, Nat.reduceSub, Nat.reduceAdd, Nat.reduceLT, List.replicate_zero, List.reduceReplicate, List.replicate_succ, wpSs, wpS, wpE, wpEs, wpT, wpI, wpC, List.getElem?_cons_zero, List.getElem?_cons_succ, List.getElem?_nil, den, dens, back, true_and, and_true, nrmE, nrmT, frzSlots, cutV1, frzT, frzL, eq_ii, eq_bb, eq_ss, eq_nn, D.isNon, o_add, o_adds, o_addl, o_sub, o_addt, n_split, n_find, o_mul, o_rep, o_div, o_mod, o_pow, c_lt, c_le, c_gt, c_ge, c_lts, c_eq, c_ne, c_is, c_isnot, c_in, c_notin, t_bl, t_non, t_int, t_lst, t_tup, x_lst, x_tup, x_scr, x_str, u_lst, u_scr, u_str, b_lenl, b_lent, b_lenc, b_lens, b_abs, b_max2, b_min2, b_int, b_inb, b_tup, b_srtk, i_lst, i_tup, i_scr, is_n, is_b, exists_eq_left', exists_eq_left, exists_eq_right, Option.some.injEq,  partD, setS, setAll, tgD, tgSlots, wipeE, List.set_cons_zero, List.set_cons_succ, List.set_nil, List.take_nil, List.take_zero, m_f, m_t, r_int, r_bl, r_str, r_non, r_tup, r_lstf, r_lstt, r_v, r_newf, r_newt, List.any_cons, List.any_nil, owned, Bool.or_false, Bool.false_or, fl_bl, fl_int, fl_str, fl_non, fl_rs, exists_eq', Ct.lst.injEq, Ct.ob.injEq, D.kst.injEq, List.take_succ_cons, dat_lst, dat_ob, dat_fz, Option.some.injEq, SV.d.injEq, D.int.injEq, forall_eq', reduceCtorEq, false_implies, forall_const, Bool.false_eq_true, List.set, if_true, if_false, Bool.not_true, Bool.not_false]
  refine ⟨by omega, by omega, fun i e l => l = [] ∧ ∃ x, e = [some (.d (.lst (iL ws))), some (.d (.lst (iL ps))), some (.d (.int (((ws.zip ps).take i).map fun p => p.1 * p.2).sum)), x], ⟨rfl, none, rfl⟩, ?_, ?_⟩
  · rintro i x e l hx ⟨rfl, x', rfl⟩
    obtain ⟨hi, rfl⟩ := rng_it hx
    rw [Int.toNat_natCast] at hi
    have e1 : ws[i]? = some ws[i] := List.getElem?_eq_getElem hi
    have e2 : ps[i]? = some ps[i] := List.getElem?_eq_getElem (by omega)
    generalize ws[i] = w at e1
    generalize ps[i]'(by omega) = v at e2
    have a1 : atI (iL ws) (i : Int) = some (.int w) := by rw [atI_ints, getl e1]; rfl
    have a2 : atI (iL ps) (i : Int) = some (.int v) := by rw [atI_ints, getl e2]; rfl
    simp only [b17_0, a1, a2, fnT, startE, List.length_cons, List.length_nil, List.map_cons, List.map_nil, List.cons_append, List.nil_append, Nat.sub_self, Nat.reduceSub, Nat.reduceAdd, Nat.reduceLT, List.replicate_zero, List.reduceReplicate, List.replicate_succ, wpSs, wpS, wpE, wpEs, wpT, wpI, wpC, List.getElem?_cons_zero, List.getElem?_cons_succ, List.getElem?_nil, den, dens, back, true_and, and_true, nrmE, nrmT, frzSlots, cutV1, frzT, frzL, eq_ii, eq_bb, eq_ss, eq_nn, D.isNon, o_add, o_adds, o_addl, o_sub, o_addt, n_split, n_find, o_mul, o_rep, o_div, o_mod, o_pow, c_lt, c_le, c_gt, c_ge, c_lts, c_eq, c_ne, c_is, c_isnot, c_in, c_notin, t_bl, t_non, t_int, t_lst, t_tup, x_lst, x_tup, x_scr, x_str, u_lst, u_scr, u_str, b_lenl, b_lent, b_lenc, b_lens, b_abs, b_max2, b_min2, b_int, b_inb, b_tup, b_srtk, i_lst, i_tup, i_scr, is_n, is_b, exists_eq_left', exists_eq_left, exists_eq_right, Option.some.injEq,  partD, setS, setAll, tgD, tgSlots, wipeE, List.set_cons_zero, List.set_cons_succ, List.set_nil, List.take_nil, List.take_zero, m_f, m_t, r_int, r_bl, r_str, r_non, r_tup, r_lstf, r_lstt, r_v, r_newf, r_newt, List.any_cons, List.any_nil, owned, Bool.or_false, Bool.false_or, fl_bl, fl_int, fl_str, fl_non, fl_rs, exists_eq', Ct.lst.injEq, Ct.ob.injEq, D.kst.injEq, List.take_succ_cons, dat_lst, dat_ob, dat_fz, Option.some.injEq, SV.d.injEq, D.int.injEq, forall_eq', reduceCtorEq, false_implies, forall_const, Bool.false_eq_true, List.set, if_true, if_false, Bool.not_true, Bool.not_false]
    refine ⟨mul_lt (ws := ws) hm (h1 w (List.mem_of_getElem? e1)) (h2 v (List.mem_of_getElem? e2)), some (.d (.int (i : Int))), ?_⟩
    have ez : (ws.zip ps)[i]? = some (w, v) := by rw [List.getElem?_zip_eq_some]; exact ⟨e1, e2⟩
    rw [List.take_add_one, ez]
    simp
  · rintro e l ⟨rfl, x', rfl⟩
    simp only [fnT, startE, List.length_cons, List.length_nil, List.map_cons, List.map_nil, List.cons_append, List.nil_append, Nat.sub_self, Nat.reduceSub, Nat.reduceAdd, Nat.reduceLT, List.replicate_zero, List.reduceReplicate, List.replicate_succ, wpSs, wpS, wpE, wpEs, wpT, wpI, wpC, List.getElem?_cons_zero, List.getElem?_cons_succ, List.getElem?_nil, den, dens, back, true_and, and_true, nrmE, nrmT, frzSlots, cutV1, frzT, frzL, eq_ii, eq_bb, eq_ss, eq_nn, D.isNon, o_add, o_adds, o_addl, o_sub, o_addt, n_split, n_find, o_mul, o_rep, o_div, o_mod, o_pow, c_lt, c_le, c_gt, c_ge, c_lts, c_eq, c_ne, c_is, c_isnot, c_in, c_notin, t_bl, t_non, t_int, t_lst, t_tup, x_lst, x_tup, x_scr, x_str, u_lst, u_scr, u_str, b_lenl, b_lent, b_lenc, b_lens, b_abs, b_max2, b_min2, b_int, b_inb, b_tup, b_srtk, i_lst, i_tup, i_scr, is_n, is_b, exists_eq_left', exists_eq_left, exists_eq_right, Option.some.injEq,  partD, setS, setAll, tgD, tgSlots, wipeE, List.set_cons_zero, List.set_cons_succ, List.set_nil, List.take_nil, List.take_zero, m_f, m_t, r_int, r_bl, r_str, r_non, r_tup, r_lstf, r_lstt, r_v, r_newf, r_newt, List.any_cons, List.any_nil, owned, Bool.or_false, Bool.false_or, fl_bl, fl_int, fl_str, fl_non, fl_rs, exists_eq', Ct.lst.injEq, Ct.ob.injEq, D.kst.injEq, List.take_succ_cons, dat_lst, dat_ob, dat_fz, Option.some.injEq, SV.d.injEq, D.int.injEq, forall_eq', reduceCtorEq, false_implies, forall_const, Bool.false_eq_true, List.set, if_true, if_false, Bool.not_true, Bool.not_false]
    have e : (((ws.zip ps).take ((List.range (ws.length : Int).toNat).map fun (i : Nat) => D.int (i : Int)).length).map fun p => p.1 * p.2).sum = dot ws ps := by
      unfold dot
      rw [rng_len, Int.toNat_natCast, List.take_of_length_le (by simp; omega)]
    rw [e]
    exact h
/-- the word of places -/
def wrd (cs : List Nat) (ps : List Int) : List Nat := ps.map fun p => cs.getD p.toNat 0
end K03

namespace K03
open PySem L2 PD
/-- Bezout -/
theorem bez_aux : ∀ (n : Nat) (a b : Int), b.natAbs ≤ n → ∃ u v : Int, a * u + b * v = (Int.gcd a b : Int)
  | 0, a, b, h => by
    have hb : b = 0 := by omega
    subst hb
    by_cases q : 0 ≤ a
    · exact ⟨1, 0, by rw [Int.gcd_zero_right]; omega⟩
    · exact ⟨-1, 0, by rw [Int.gcd_zero_right]; omega⟩
  | n + 1, a, b, h => by
    by_cases hb : b = 0
    · subst hb
      exact bez_aux n a 0 (by simp)
    · have l1 := Int.emod_lt a hb
      have l2 := Int.emod_nonneg a hb
      obtain ⟨u, v, e⟩ := bez_aux n b (a % b) (by omega)
      refine ⟨v, u - a / b * v, ?_⟩
      rw [gcd_step] at e
      rw [← e, Int.emod_def, Int.mul_sub, Int.sub_mul]
      have : b * (a / b * v) = b * (a / b) * v := by rw [Int.mul_assoc]
      omega
theorem bez (a b : Int) : ∃ u v : Int, a * u + b * v = (Int.gcd a b : Int) := bez_aux _ a b (Nat.le_refl _)
theorem dvd_modeq {m x y : Int} (h : (x - y) % m = 0) {g : Int} (hg : g ∣ m) (hx : g ∣ x) : g ∣ y := by
  have d1 : m ∣ x - y := Int.dvd_of_emod_eq_zero h
  have d2 : g ∣ x - y := Int.dvd_trans hg d1
  have := Int.dvd_sub hx d2
  rwa [show x - (x - y) = y by omega] at this
theorem dot_cons {w p : Int} {ws ps : List Int} : dot (w :: ws) (p :: ps) = w * p + dot ws ps := by
  unfold dot; simp
theorem dot_nil {ps : List Int} : dot [] ps = 0 := by unfold dot; simp
/-- the greatest common part of all -/
def gl : List Int → Int → Nat
  | [], m => m.natAbs
  | w :: ws, m => Int.gcd w (gl ws m : Int)
theorem gl_m {m : Int} : ∀ {ws : List Int}, ((gl ws m : Nat) : Int) ∣ m
  | [] => by unfold gl; exact Int.natAbs_dvd.mpr (Int.dvd_refl m)
  | w :: ws => by
    unfold gl
    exact Int.dvd_trans (Int.gcd_dvd_right ..) gl_m
theorem gl_dot {m : Int} : ∀ {ws ps : List Int}, ((gl ws m : Nat) : Int) ∣ dot ws ps
  | [], ps => by rw [dot_nil]; exact Int.dvd_zero _
  | w :: ws, [] => by unfold dot; simp
  | w :: ws, p :: ps => by
    rw [dot_cons]
    unfold gl
    refine Int.dvd_add (Int.dvd_trans (Int.gcd_dvd_left ..) (Int.dvd_mul_right w p)) (Int.dvd_trans (Int.gcd_dvd_right ..) gl_dot)
theorem gl_pos {m : Int} (hm : 0 < m) {ws : List Int} : 0 < gl ws m := by
  have h := gl_m (m := m) (ws := ws)
  rcases Nat.eq_zero_or_pos (gl ws m) with e | e
  · rw [e] at h
    obtain ⟨c, hc⟩ := h
    simp at hc
    omega
  · exact e
/-- a number that some word's sum has -/
def Reach (ws : List Int) (m x : Int) : Prop := ∃ ps : List Int, ps.length = ws.length ∧ Lt ps m ∧ (dot ws ps - x) % m = 0
theorem reach_gl {ws : List Int} {m x : Int} (h : Reach ws m x) : ((gl ws m : Nat) : Int) ∣ x := by
  obtain ⟨ps, _, _, e⟩ := h
  exact dvd_modeq e gl_m gl_dot
theorem gl_reach {m : Int} (hm : 0 < m) : ∀ {ws : List Int} {x : Int}, ((gl ws m : Nat) : Int) ∣ x → Reach ws m x
  | [], x, h => by
    refine ⟨[], rfl, Lt.nil, ?_⟩
    rw [dot_nil]
    have h1 : m ∣ x := by
      have : ((gl [] m : Nat) : Int) = (m.natAbs : Int) := rfl
      rw [this] at h
      exact Int.natAbs_dvd.mp h
    exact Int.emod_eq_zero_of_dvd (Int.dvd_sub (Int.dvd_zero _) h1)
  | w :: ws, x, h => by
    obtain ⟨u, v, e⟩ := bez w ((gl ws m : Nat) : Int)
    have h' : ((Int.gcd w ((gl ws m : Nat) : Int) : Nat) : Int) ∣ x := h
    obtain ⟨t, ht⟩ := h'
    have g : ((gl ws m : Nat) : Int) ∣ x - w * (u * t % m) := by
      have e2 : x - w * (u * t % m) = ((gl ws m : Nat) : Int) * (v * t) + m * (w * (u * t / m)) := by
        rw [ht, ← e, Int.emod_def, Int.mul_sub, Int.add_mul]
        have a1 : w * u * t = w * (u * t) := Int.mul_assoc ..
        have a2 : ((gl ws m : Nat) : Int) * v * t = ((gl ws m : Nat) : Int) * (v * t) := Int.mul_assoc ..
        have a3 : w * (m * (u * t / m)) = m * (w * (u * t / m)) := by rw [← Int.mul_assoc, Int.mul_comm w m, Int.mul_assoc]
        omega
      rw [e2]
      exact Int.dvd_add (Int.dvd_mul_right ..) (Int.dvd_trans gl_m (Int.dvd_mul_right ..))
    obtain ⟨ps, l1, l2, l3⟩ := gl_reach hm g
    refine ⟨(u * t % m) :: ps, by simp [l1], fun y hy => ?_, ?_⟩
    · rcases List.mem_cons.mp hy with q | q
      · subst q; exact ⟨Int.emod_nonneg _ (by omega), Int.emod_lt_of_pos _ hm⟩
      · exact l2 y q
    · rw [dot_cons, show w * (u * t % m) + dot ws ps - x = dot ws ps - (x - w * (u * t % m)) by omega]
      exact l3
theorem reach_mod {ws : List Int} {m x : Int} : Reach ws m (x % m) ↔ Reach ws m x := by
  have key : ∀ d : Int, (d - x % m) % m = 0 ↔ (d - x) % m = 0 := fun d => by
    have : (d - x % m) % m = (d - x) % m := by rw [Int.sub_emod_emod]
    rw [this]
  unfold Reach
  constructor
  · rintro ⟨ps, a, b, c⟩; exact ⟨ps, a, b, (key _).mp c⟩
  · rintro ⟨ps, a, b, c⟩; exact ⟨ps, a, b, (key _).mpr c⟩
theorem reach_nil {m x : Int} (h0 : 0 ≤ x) (h1 : x < m) : Reach [] m x ↔ x = 0 := by
  constructor
  · rintro ⟨ps, _, _, e⟩
    rw [dot_nil] at e
    have d : m ∣ 0 - x := Int.dvd_of_emod_eq_zero e
    have d2 : m ∣ x := by
      have := Int.dvd_neg.mpr d
      rwa [show -(0 - x) = x by omega] at this
    have := Int.emod_eq_zero_of_dvd d2
    rw [Int.emod_eq_of_lt h0 h1] at this
    exact this
  · rintro rfl
    exact ⟨[], rfl, Lt.nil, by rw [dot_nil]; simp⟩
theorem reach_cons {w m x : Int} {ws : List Int} : Reach (w :: ws) m x ↔ ∃ p, 0 ≤ p ∧ p < m ∧ Reach ws m ((x - w * p) % m) := by
  constructor
  · rintro ⟨ps, l1, l2, l3⟩
    cases ps with
    | nil => simp at l1
    | cons p ps =>
      refine ⟨p, (l2 p (by simp)).1, (l2 p (by simp)).2, reach_mod.mpr ⟨ps, by simpa using l1, fun y hy => l2 y (by simp [hy]), ?_⟩⟩
      rw [dot_cons] at l3
      rw [show dot ws ps - (x - w * p) = w * p + dot ws ps - x by omega]
      exact l3
  · rintro ⟨p, h0, h1, h⟩
    obtain ⟨ps, l1, l2, l3⟩ := reach_mod.mp h
    refine ⟨p :: ps, by simp [l1], fun y hy => ?_, ?_⟩
    · rcases List.mem_cons.mp hy with q | q
      · subst q; exact ⟨h0, h1⟩
      · exact l2 y q
    · rw [dot_cons, show w * p + dot ws ps - x = dot ws ps - (x - w * p) by omega]
      exact l3
/-- a part that is shared -/
theorem part_of {w m : Int} (hm : 0 < m) (h : Int.gcd w m ≠ 1) (hm1 : 1 < m) : ∃ part, 1 ≤ part ∧ part < m ∧ w * part % m = 0 := by
  have d1 : ((Int.gcd w m : Nat) : Int) ∣ w := Int.gcd_dvd_left ..
  have d2 : ((Int.gcd w m : Nat) : Int) ∣ m := Int.gcd_dvd_right ..
  have gp : 0 < Int.gcd w m := Int.gcd_pos_of_ne_zero_right _ (by omega)
  generalize Int.gcd w m = g at *
  obtain ⟨a, ha⟩ := d1
  obtain ⟨b, hb⟩ := d2
  have g2 : (2 : Int) ≤ g := by omega
  have bp : 0 < b := by
    rcases Int.lt_or_le 0 b with q | q
    · exact q
    · have : (g : Int) * b ≤ 0 := Int.mul_nonpos_of_nonneg_of_nonpos (by omega) q
      omega
  refine ⟨b, by omega, ?_, ?_⟩
  · have : 2 * b ≤ (g : Int) * b := Int.mul_le_mul_of_nonneg_right g2 (by omega)
    omega
  · rw [ha, show (g : Int) * a * b = (g * b) * a by rw [Int.mul_assoc, Int.mul_comm a b, ← Int.mul_assoc], ← hb]
    exact Int.mul_emod_right ..
theorem no_part {w m part : Int} (h : Int.gcd w m = 1) (h1 : 1 ≤ part) (h2 : part < m) : w * part % m ≠ 0 := fun e => by
  have d : m ∣ w * part := Int.dvd_of_emod_eq_zero e
  obtain ⟨u, v, q⟩ := bez w m
  rw [h] at q
  have d2 : m ∣ part := by
    have e3 : part = (w * part) * u + m * (v * part) := by
      have : part * (w * u + m * v) = part * ((1 : Nat) : Int) := by rw [q]
      have a1 : part * (w * u) = w * part * u := by rw [← Int.mul_assoc, Int.mul_comm part w]
      have a2 : part * (m * v) = m * (v * part) := by rw [Int.mul_comm part (m * v), Int.mul_assoc]
      rw [Int.mul_add, a1, a2] at this
      omega
    rw [e3]
    exact Int.dvd_add (Int.dvd_trans d (Int.dvd_mul_right ..)) (Int.dvd_mul_right ..)
  have := Int.le_of_dvd (by omega) d2
  omega
end K03

namespace K03
open PySem L2 PD
theorem gl_snoc {m w : Int} : ∀ {ws : List Int}, gl (ws ++ [w]) m = Int.gcd ((gl ws m : Nat) : Int) w
  | [] => by
    show Int.gcd w (m.natAbs : Int) = Int.gcd (m.natAbs : Int) w
    exact Int.gcd_comm _ _
  | v :: ws => by
    show Int.gcd v ((gl (ws ++ [w]) m : Nat) : Int) = Int.gcd ((Int.gcd v ((gl ws m : Nat) : Int) : Nat) : Int) w
    rw [gl_snoc, Int.gcd_assoc]
theorem s_common {n : Nat} {ws : List Int} {m : Int} {k z} (hm : 0 < m) (hL : Lt ws m) (h : k (.v (.int (gl ws m : Nat)))) : wpF fnT gcT (n+1) 18 [.lst (iL ws), .int m] k z := by
  unfold wpF
  simp only [f18, b18, fnT, startE, List.length_cons, List.length_nil, List.map_cons, List.map_nil, List.cons_append, List.nil_append, Nat.sub_self, Nat.reduceSub, Nat.reduceAdd, Nat.reduceLT, List.replicate_zero, List.reduceReplicate, List.replicate_succ, wpSs, wpS, wpE, wpEs, wpT, wpI, wpC, List.getElem?_cons_zero, List.getElem?_cons_succ, List.getElem?_nil, den, dens, back, true_and, and_true, nrmE, nrmT, frzSlots, cutV1, frzT, frzL, eq_ii, eq_bb, eq_ss, eq_nn, D.isNon, o_add, o_adds, o_addl, o_sub, o_addt, n_split, n_find, o_mul, o_rep, o_div, o_mod, o_pow, c_lt, c_le, c_gt, c_ge, c_lts, c_eq, c_ne, c_is, c_isnot, c_in, c_notin, t_bl, t_non, t_int, t_lst, t_tup, x_lst, x_tup, x_scr, x_str, u_lst, u_scr, u_str, b_lenl, b_lent, b_lenc, b_lens, b_abs, b_max2, b_min2, b_int, b_inb, b_tup, b_srtk, i_lst, i_tup, i_scr, is_n, is_b, exists_eq_left', exists_eq_left, exists_eq_right, Option.some.injEq,  partD, setS, setAll, tgD, tgSlots, wipeE, List.set_cons_zero, List.set_cons_succ, List.set_nil, List.take_nil, List.take_zero, m_f, m_t, r_int, r_bl, r_str, r_non, r_tup, r_lstf, r_lstt, r_v, r_newf, r_newt, List.any_cons, List.any_nil, owned, Bool.or_false, Bool.false_or, fl_bl, fl_int, fl_str, fl_non, fl_rs, exists_eq', Ct.lst.injEq, Ct.ob.injEq, D.kst.injEq, List.take_succ_cons, dat_lst, dat_ob, dat_fz, Option.some.injEq, SV.d.injEq, D.int.injEq, forall_eq', reduceCtorEq, false_implies, forall_const, Bool.false_eq_true, List.set, if_true, if_false, Bool.not_true, Bool.not_false]
  refine ⟨fun i e l => l = [] ∧ ∃ x, e = [some (.d (.lst (iL ws))), some (.d (.int (gl (ws.take i) m : Nat))), x], ⟨rfl, none, ?_⟩, ?_, ?_⟩
  · have e : ((gl (ws.take 0) m : Nat) : Int) = m := by
      show ((m.natAbs : Nat) : Int) = m
      omega
    rw [e]
  · rintro i x e l hx ⟨rfl, x', rfl⟩
    obtain ⟨w, hw, rfl⟩ := lst_it hx
    have b := hL w (List.mem_of_getElem? hw)
    have e1 : ws.take (i + 1) = ws.take i ++ [w] := by rw [List.take_add_one, hw]; rfl
    have e2 := gl_snoc (m := m) (w := w) (ws := ws.take i)
    rw [← e1] at e2
    simp only [b18_2, fnT, startE, List.length_cons, List.length_nil, List.map_cons, List.map_nil, List.cons_append, List.nil_append, Nat.sub_self, Nat.reduceSub, Nat.reduceAdd, Nat.reduceLT, List.replicate_zero, List.reduceReplicate, List.replicate_succ, wpSs, wpS, wpE, wpEs, wpT, wpI, wpC, List.getElem?_cons_zero, List.getElem?_cons_succ, List.getElem?_nil, den, dens, back, true_and, and_true, nrmE, nrmT, frzSlots, cutV1, frzT, frzL, eq_ii, eq_bb, eq_ss, eq_nn, D.isNon, o_add, o_adds, o_addl, o_sub, o_addt, n_split, n_find, o_mul, o_rep, o_div, o_mod, o_pow, c_lt, c_le, c_gt, c_ge, c_lts, c_eq, c_ne, c_is, c_isnot, c_in, c_notin, t_bl, t_non, t_int, t_lst, t_tup, x_lst, x_tup, x_scr, x_str, u_lst, u_scr, u_str, b_lenl, b_lent, b_lenc, b_lens, b_abs, b_max2, b_min2, b_int, b_inb, b_tup, b_srtk, i_lst, i_tup, i_scr, is_n, is_b, exists_eq_left', exists_eq_left, exists_eq_right, Option.some.injEq,  partD, setS, setAll, tgD, tgSlots, wipeE, List.set_cons_zero, List.set_cons_succ, List.set_nil, List.take_nil, List.take_zero, m_f, m_t, r_int, r_bl, r_str, r_non, r_tup, r_lstf, r_lstt, r_v, r_newf, r_newt, List.any_cons, List.any_nil, owned, Bool.or_false, Bool.false_or, fl_bl, fl_int, fl_str, fl_non, fl_rs, exists_eq', Ct.lst.injEq, Ct.ob.injEq, D.kst.injEq, List.take_succ_cons, dat_lst, dat_ob, dat_fz, Option.some.injEq, SV.d.injEq, D.int.injEq, forall_eq', reduceCtorEq, false_implies, forall_const, Bool.false_eq_true, List.set, if_true, if_false, Bool.not_true, Bool.not_false]
    generalize gl (ws.take i) m = g at *
    refine ⟨fun c e l => l = [] ∧ ∃ x y : Int, e = [some (.d (.lst (iL ws))), some (.d (.int x)), some (.d (.int y))] ∧ 0 ≤ x ∧ 0 ≤ y ∧ c = y.toNat ∧ Int.gcd x y = Int.gcd (g : Int) w, ⟨_, rfl, (g : Int), w, rfl, by omega, b.1, rfl, rfl⟩, ?_⟩
    rintro c e l ⟨rfl, x, y, rfl, hx0, hy, rfl, hg⟩
    simp only [b18_0, b18_1, fnT, startE, List.length_cons, List.length_nil, List.map_cons, List.map_nil, List.cons_append, List.nil_append, Nat.sub_self, Nat.reduceSub, Nat.reduceAdd, Nat.reduceLT, List.replicate_zero, List.reduceReplicate, List.replicate_succ, wpSs, wpS, wpE, wpEs, wpT, wpI, wpC, List.getElem?_cons_zero, List.getElem?_cons_succ, List.getElem?_nil, den, dens, back, true_and, and_true, nrmE, nrmT, frzSlots, cutV1, frzT, frzL, eq_ii, eq_bb, eq_ss, eq_nn, D.isNon, o_add, o_adds, o_addl, o_sub, o_addt, n_split, n_find, o_mul, o_rep, o_div, o_mod, o_pow, c_lt, c_le, c_gt, c_ge, c_lts, c_eq, c_ne, c_is, c_isnot, c_in, c_notin, t_bl, t_non, t_int, t_lst, t_tup, x_lst, x_tup, x_scr, x_str, u_lst, u_scr, u_str, b_lenl, b_lent, b_lenc, b_lens, b_abs, b_max2, b_min2, b_int, b_inb, b_tup, b_srtk, i_lst, i_tup, i_scr, is_n, is_b, exists_eq_left', exists_eq_left, exists_eq_right, Option.some.injEq,  partD, setS, setAll, tgD, tgSlots, wipeE, List.set_cons_zero, List.set_cons_succ, List.set_nil, List.take_nil, List.take_zero, m_f, m_t, r_int, r_bl, r_str, r_non, r_tup, r_lstf, r_lstt, r_v, r_newf, r_newt, List.any_cons, List.any_nil, owned, Bool.or_false, Bool.false_or, fl_bl, fl_int, fl_str, fl_non, fl_rs, exists_eq', Ct.lst.injEq, Ct.ob.injEq, D.kst.injEq, List.take_succ_cons, dat_lst, dat_ob, dat_fz, Option.some.injEq, SV.d.injEq, D.int.injEq, forall_eq', reduceCtorEq, false_implies, forall_const, Bool.false_eq_true, List.set, if_true, if_false, Bool.not_true, Bool.not_false]
    refine ⟨fun h0 => ?_, fun h0 => ?_⟩
    · have y0 : y ≠ 0 := by simpa using h0
      have yp : 0 < y := by omega
      have l1 := Int.emod_lt_of_pos x yp
      have l2 := Int.emod_nonneg x y0
      exact ⟨yp, _, by omega, y, x % y, rfl, by omega, l2, rfl, by rw [gcd_step]; exact hg⟩
    · have y0 : y = 0 := by simpa using h0
      subst y0
      refine ⟨some (.d (.int 0)), ?_⟩
      rw [e2, ← hg, Int.gcd_zero_right]
      have : ((x.natAbs : Nat) : Int) = x := by omega
      rw [this]
  · rintro e l ⟨rfl, x', rfl⟩
    simp only [fnT, startE, List.length_cons, List.length_nil, List.map_cons, List.map_nil, List.cons_append, List.nil_append, Nat.sub_self, Nat.reduceSub, Nat.reduceAdd, Nat.reduceLT, List.replicate_zero, List.reduceReplicate, List.replicate_succ, wpSs, wpS, wpE, wpEs, wpT, wpI, wpC, List.getElem?_cons_zero, List.getElem?_cons_succ, List.getElem?_nil, den, dens, back, true_and, and_true, nrmE, nrmT, frzSlots, cutV1, frzT, frzL, eq_ii, eq_bb, eq_ss, eq_nn, D.isNon, o_add, o_adds, o_addl, o_sub, o_addt, n_split, n_find, o_mul, o_rep, o_div, o_mod, o_pow, c_lt, c_le, c_gt, c_ge, c_lts, c_eq, c_ne, c_is, c_isnot, c_in, c_notin, t_bl, t_non, t_int, t_lst, t_tup, x_lst, x_tup, x_scr, x_str, u_lst, u_scr, u_str, b_lenl, b_lent, b_lenc, b_lens, b_abs, b_max2, b_min2, b_int, b_inb, b_tup, b_srtk, i_lst, i_tup, i_scr, is_n, is_b, exists_eq_left', exists_eq_left, exists_eq_right, Option.some.injEq,  partD, setS, setAll, tgD, tgSlots, wipeE, List.set_cons_zero, List.set_cons_succ, List.set_nil, List.take_nil, List.take_zero, m_f, m_t, r_int, r_bl, r_str, r_non, r_tup, r_lstf, r_lstt, r_v, r_newf, r_newt, List.any_cons, List.any_nil, owned, Bool.or_false, Bool.false_or, fl_bl, fl_int, fl_str, fl_non, fl_rs, exists_eq', Ct.lst.injEq, Ct.ob.injEq, D.kst.injEq, List.take_succ_cons, dat_lst, dat_ob, dat_fz, Option.some.injEq, SV.d.injEq, D.int.injEq, forall_eq', reduceCtorEq, false_implies, forall_const, Bool.false_eq_true, List.set, if_true, if_false, Bool.not_true, Bool.not_false]
    rw [show (ws.map D.int).length = ws.length by simp, List.take_length]
    exact h
theorem s_shared {n : Nat} {w m : Int} {k z} (hm : 1 < m) (hm2 : m ≤ 26) (hw : -26 < w) (hw2 : w < 26) (h1 : ∀ part, 1 ≤ part → part < m → w * part % m = 0 → k (.v (.int part))) (h2 : (∀ part, 1 ≤ part → part < m → w * part % m ≠ 0) → k (.v (.int 0))) :
    wpF fnT gcT (n+1) 5 [.int w, .int m] k z := by
  unfold wpF
  simp only [f5, b5, fnT, startE, List.length_cons, List.length_nil, List.map_cons, List.map_nil, List.cons_append, List.nil_append, Nat.sub_self, Nat.reduceSub, Nat.reduceAdd, Nat.reduceLT, List.replicate_zero, List.reduceReplicate, List.replicate_succ, wpSs, wpS, wpE, wpEs, wpT, wpI, wpC, List.getElem?_cons_zero, List.getElem?_cons_succ, List.getElem?_nil, den, dens, back, true_and, and_true, nrmE, nrmT, frzSlots, cutV1, frzT, frzL, eq_ii, eq_bb, eq_ss, eq_nn, D.isNon, o_add, o_adds, o_addl, o_sub, o_addt, n_split, n_find, o_mul, o_rep, o_div, o_mod, o_pow, c_lt, c_le, c_gt, c_ge, c_lts, c_eq, c_ne, c_is, c_isnot, c_in, c_notin, t_bl, t_non, t_int, t_lst, t_tup, x_lst, x_tup, x_scr, x_str, u_lst, u_scr, u_str, b_lenl, b_lent, b_lenc, b_lens, b_abs, b_max2, b_min2, b_int, b_inb, b_tup, b_srtk, i_lst, i_tup, i_scr, is_n, is_b, exists_eq_left', exists_eq_left, exists_eq_right, Option.some.injEq,  partD, setS, setAll, tgD, tgSlots, wipeE, List.set_cons_zero, List.set_cons_succ, List.set_nil, List.take_nil, List.take_zero, m_f, m_t, r_int, r_bl, r_str, r_non, r_tup, r_lstf, r_lstt, r_v, r_newf, r_newt, List.any_cons, List.any_nil, owned, Bool.or_false, Bool.false_or, fl_bl, fl_int, fl_str, fl_non, fl_rs, exists_eq', Ct.lst.injEq, Ct.ob.injEq, D.kst.injEq, List.take_succ_cons, dat_lst, dat_ob, dat_fz, Option.some.injEq, SV.d.injEq, D.int.injEq, forall_eq', reduceCtorEq, false_implies, forall_const, Bool.false_eq_true, List.set, if_true, if_false, Bool.not_true, Bool.not_false]
  refine ⟨⟨by decide, by decide, by omega, by omega⟩, fun i e l => l = [] ∧ (∃ x, e = [some (.d (.int w)), some (.d (.int m)), x]) ∧ ∀ part, 1 ≤ part → part < 1 + (i : Int) → w * part % m ≠ 0, ⟨rfl, ⟨none, rfl⟩, fun part a b => by omega⟩, ?_, ?_⟩
  · rintro i x e l hx ⟨rfl, ⟨x', rfl⟩, ih⟩
    have hx2 : (i : Int) < m - 1 ∧ x = .int (1 + (i : Int)) := by
      obtain ⟨hi, e⟩ := List.getElem?_eq_some_iff.mp hx
      simp at hi e
      exact ⟨by omega, e.symm⟩
    obtain ⟨hi, rfl⟩ := hx2
    simp only [b5_0, fnT, startE, List.length_cons, List.length_nil, List.map_cons, List.map_nil, List.cons_append, List.nil_append, Nat.sub_self, Nat.reduceSub, Nat.reduceAdd, Nat.reduceLT, List.replicate_zero, List.reduceReplicate, List.replicate_succ, wpSs, wpS, wpE, wpEs, wpT, wpI, wpC, List.getElem?_cons_zero, List.getElem?_cons_succ, List.getElem?_nil, den, dens, back, true_and, and_true, nrmE, nrmT, frzSlots, cutV1, frzT, frzL, eq_ii, eq_bb, eq_ss, eq_nn, D.isNon, o_add, o_adds, o_addl, o_sub, o_addt, n_split, n_find, o_mul, o_rep, o_div, o_mod, o_pow, c_lt, c_le, c_gt, c_ge, c_lts, c_eq, c_ne, c_is, c_isnot, c_in, c_notin, t_bl, t_non, t_int, t_lst, t_tup, x_lst, x_tup, x_scr, x_str, u_lst, u_scr, u_str, b_lenl, b_lent, b_lenc, b_lens, b_abs, b_max2, b_min2, b_int, b_inb, b_tup, b_srtk, i_lst, i_tup, i_scr, is_n, is_b, exists_eq_left', exists_eq_left, exists_eq_right, Option.some.injEq,  partD, setS, setAll, tgD, tgSlots, wipeE, List.set_cons_zero, List.set_cons_succ, List.set_nil, List.take_nil, List.take_zero, m_f, m_t, r_int, r_bl, r_str, r_non, r_tup, r_lstf, r_lstt, r_v, r_newf, r_newt, List.any_cons, List.any_nil, owned, Bool.or_false, Bool.false_or, fl_bl, fl_int, fl_str, fl_non, fl_rs, exists_eq', Ct.lst.injEq, Ct.ob.injEq, D.kst.injEq, List.take_succ_cons, dat_lst, dat_ob, dat_fz, Option.some.injEq, SV.d.injEq, D.int.injEq, forall_eq', reduceCtorEq, false_implies, forall_const, Bool.false_eq_true, List.set, if_true, if_false, Bool.not_true, Bool.not_false]
    refine ⟨mul_of 10 10 (by omega) (by omega) (by decide), by omega, fun h0 => ?_, fun h0 => ?_⟩
    · exact h1 _ (by omega) (by omega) (by simpa using h0)
    · refine ⟨⟨_, rfl⟩, fun part a b => ?_⟩
      by_cases q : part = 1 + (i : Int)
      · subst q; simpa using h0
      · exact ih part a (by omega)
  · rintro e l ⟨rfl, ⟨x', rfl⟩, ih⟩
    refine h2 fun part a b => ih part a ?_
    simp
    omega
/-- so many numbers below n at most -/
theorem nodup_le : ∀ (n : Nat) (l : List Int), l.Nodup → (∀ x ∈ l, 0 ≤ x ∧ x < (n : Int)) → l.length ≤ n
  | 0, l, _, h => by
    cases l with
    | nil => simp
    | cons a t => have := h a (by simp); omega
  | n + 1, l, hn, h => by
    have e := nodup_le n (l.erase (n : Int)) (hn.erase _) fun x hx => by
      have h1 := h x (List.mem_of_mem_erase hx)
      have h2 : x ≠ (n : Int) := fun q => by
        subst q
        exact (List.Nodup.not_mem_erase hn) hx
      omega
    rw [List.length_erase] at e
    split at e <;> omega
theorem putI_nodup {ks : List Int} {x : Int} (h : ks.Nodup) : (putI ks x).Nodup := by
  unfold putI
  split
  · exact h
  · rename_i q
    exact List.nodup_append.mpr ⟨h, by simp, fun a ha b hb e => by simp at hb; subst hb; subst e; exact q ha⟩
theorem putI_mem {ks : List Int} {x y : Int} : y ∈ putI ks x ↔ y ∈ ks ∨ y = x := by
  unfold putI
  split
  · rename_i q
    constructor
    · exact .inl
    · rintro (h | h)
      · exact h
      · subst h; exact q
  · simp
theorem inL_ints {x : Int} : ∀ {S : List Int}, D.inL (.int x) (iL S) = decide (x ∈ S)
  | [] => rfl
  | a :: S => by
    have ih := inL_ints (x := x) (S := S)
    unfold D.inL at ih ⊢
    rw [show iL (a :: S) = D.int a :: iL S from rfl, List.any_cons, ih]
    show ((a == x) || decide (x ∈ S)) = _
    by_cases h : x = a
    · subst h; simp
    · have : ¬ a = x := fun z => h z.symm
      simp [h, this]
theorem flat_ints : ∀ S : List Int, (iL S).all D.flat = true
  | [] => rfl
  | a :: S => by rw [show iL (a :: S) = D.int a :: iL S from rfl, List.all_cons, flat_ints S]; rfl
end K03

namespace K03
open PySem L2 PD
/-- the numbers that these weights reach -/
def Ok (S us : List Int) (m : Int) : Prop := ∀ x, x ∈ S ↔ (0 ≤ x ∧ x < m ∧ Reach us m x)
abbrev iLL (F : List (List Int)) : List D := F.map fun S => D.lst (iL S)
theorem Ok.nil {m : Int} (hm : 0 < m) : Ok [0] [] m := fun x => by
  constructor
  · intro h
    simp at h; subst h
    exact ⟨by decide, hm, (reach_nil (by decide) hm).mpr rfl⟩
  · rintro ⟨h0, h1, h2⟩
    simp [(reach_nil h0 h1).mp h2]
theorem Ok.cons {S us ks : List Int} {m w : Int} (hm : 0 < m) (h : Ok S us m) (hk : ∀ y, y ∈ ks ↔ ∃ left p, left ∈ S ∧ 0 ≤ p ∧ p < m ∧ y = (left + w * p) % m) : Ok ks (w :: us) m := fun x => by
  rw [hk, reach_cons]
  constructor
  · rintro ⟨left, p, hl, p0, p1, rfl⟩
    obtain ⟨l0, l1, l2⟩ := (h left).mp hl
    refine ⟨Int.emod_nonneg _ (by omega), Int.emod_lt_of_pos _ hm, p, p0, p1, ?_⟩
    have e : ((left + w * p) % m - w * p) % m = left := by
      rw [Int.emod_sub_emod, show left + w * p - w * p = left by omega, Int.emod_eq_of_lt l0 l1]
    rw [e]; exact l2
  · rintro ⟨h0, h1, p, p0, p1, hr⟩
    refine ⟨(x - w * p) % m, p, (h _).mpr ⟨Int.emod_nonneg _ (by omega), Int.emod_lt_of_pos _ hm, hr⟩, p0, p1, ?_⟩
    rw [Int.emod_add_emod, show x - w * p + w * p = x by omega, Int.emod_eq_of_lt h0 h1]
theorem key_few {S0 ks : List Int} {m w : Int} (hm : 0 < m) (hm2 : m ≤ 26) (hnd : ks.Nodup) (hP : ∀ y ∈ ks, ∃ left p, left ∈ S0 ∧ 0 ≤ p ∧ p < m ∧ y = (left + w * p) % m) : ks.length ≤ 26 :=
  nodup_le 26 ks hnd fun y hy => by
    obtain ⟨left, p, _, _, _, rfl⟩ := hP y hy
    have e1 := Int.emod_nonneg (left + w * p) (show m ≠ 0 by omega)
    have e2 := Int.emod_lt_of_pos (left + w * p) hm
    omega
theorem s_reached {n : Nat} {ws : List Int} {m : Int} {k z} (hm : 0 < m) (hm2 : m ≤ 26) (hL : Lt ws m) (hl : ws.length ≤ 1000) (h : ∀ F : List (List Int), F.length = ws.length + 1 → (∀ j S, F[j]? = some S → Ok S (ws.drop j) m) → k (.v (.lst (iLL F)))) :
    wpF fnT gcT (n+1) 3 [.lst (iL ws), .int m] k z := by
  unfold wpF
  simp only [f3, b3, fnT, startE, List.length_cons, List.length_nil, List.map_cons, List.map_nil, List.cons_append, List.nil_append, Nat.sub_self, Nat.reduceSub, Nat.reduceAdd, Nat.reduceLT, List.replicate_zero, List.reduceReplicate, List.replicate_succ, wpSs, wpS, wpE, wpEs, wpT, wpI, wpC, List.getElem?_cons_zero, List.getElem?_cons_succ, List.getElem?_nil, den, dens, back, true_and, and_true, nrmE, nrmT, frzSlots, cutV1, frzT, frzL, eq_ii, eq_bb, eq_ss, eq_nn, D.isNon, o_add, o_adds, o_addl, o_sub, o_addt, n_split, n_find, o_mul, o_rep, o_div, o_mod, o_pow, c_lt, c_le, c_gt, c_ge, c_lts, c_eq, c_ne, c_is, c_isnot, c_in, c_notin, t_bl, t_non, t_int, t_lst, t_tup, x_lst, x_tup, x_scr, x_str, u_lst, u_scr, u_str, b_lenl, b_lent, b_lenc, b_lens, b_abs, b_max2, b_min2, b_int, b_inb, b_tup, b_srtk, i_lst, i_tup, i_scr, is_n, is_b, exists_eq_left', exists_eq_left, exists_eq_right, Option.some.injEq,  partD, setS, setAll, tgD, tgSlots, wipeE, List.set_cons_zero, List.set_cons_succ, List.set_nil, List.take_nil, List.take_zero, m_f, m_t, r_int, r_bl, r_str, r_non, r_tup, r_lstf, r_lstt, r_v, r_newf, r_newt, List.any_cons, List.any_nil, owned, Bool.or_false, Bool.false_or, fl_bl, fl_int, fl_str, fl_non, fl_rs, exists_eq', Ct.lst.injEq, Ct.ob.injEq, D.kst.injEq, List.take_succ_cons, dat_lst, dat_ob, dat_fz, Option.some.injEq, SV.d.injEq, D.int.injEq, forall_eq', reduceCtorEq, false_implies, forall_const, Bool.false_eq_true, List.set, if_true, if_false, Bool.not_true, Bool.not_false]
  refine ⟨sizeLine_big (by decide), sizeLine_big (by decide), fun i e l => l = [] ∧ ∃ (F : List (List Int)) (x3 x4 x5 x6 : Option SV), e = [some (.d (.lst (iL ws))), some (.d (.int m)), some (.d (.lst (iLL F))), x3, x4, x5, x6] ∧ F.length = i + 1 ∧ i ≤ ws.length ∧ ∀ j S, F[j]? = some S → Ok S (ws.drop (ws.length - i + j)) m, ⟨rfl, [[0]], none, none, none, none, rfl, rfl, Nat.zero_le _, fun j S hS => ?_⟩, ?_, ?_⟩
  · have hj : j = 0 := by
      have := (List.getElem?_eq_some_iff.mp hS).1
      simp at this; exact this
    subst hj
    simp at hS
    subst hS
    rw [List.drop_of_length_le (by omega)]
    exact Ok.nil hm
  · rintro i x e l hx ⟨rfl, F, x3, x4, x5, x6, rfl, hF, hi, hO⟩
    have hx2 : ∃ w, i < ws.length ∧ ws[ws.length - 1 - i]? = some w ∧ x = .int w := by
      have hi2 := (List.getElem?_eq_some_iff.mp hx).1
      simp at hi2
      rw [List.getElem?_reverse (by simpa using hi2), List.length_map, List.getElem?_map] at hx
      cases q : ws[ws.length - 1 - i]? with
      | none => rw [q] at hx; cases hx
      | some w => rw [q] at hx; exact ⟨w, hi2, rfl, (Option.some.inj hx).symm⟩
    obtain ⟨w, hi2, hw, rfl⟩ := hx2
    have wb := hL w (List.mem_of_getElem? hw)
    obtain ⟨S0, F', rfl⟩ : ∃ S0 F', F = S0 :: F' := by
      cases F with
      | nil => simp at hF
      | cons a b => exact ⟨a, b, rfl⟩
    have hS0 : Ok S0 (ws.drop (ws.length - i)) m := hO 0 S0 rfl
    have a0 : atI (iLL (S0 :: F')) 0 = some (.lst (iL S0)) := getl (i := 0) rfl
    have P0 : ∀ left ∈ S0, 0 ≤ left ∧ left < m := fun left hl => let q := (hS0 left).mp hl; ⟨q.1, q.2.1⟩
    simp only [b3_2, fnT, startE, List.length_cons, List.length_nil, List.map_cons, List.map_nil, List.cons_append, List.nil_append, Nat.sub_self, Nat.reduceSub, Nat.reduceAdd, Nat.reduceLT, List.replicate_zero, List.reduceReplicate, List.replicate_succ, wpSs, wpS, wpE, wpEs, wpT, wpI, wpC, List.getElem?_cons_zero, List.getElem?_cons_succ, List.getElem?_nil, den, dens, back, true_and, and_true, nrmE, nrmT, frzSlots, cutV1, frzT, frzL, eq_ii, eq_bb, eq_ss, eq_nn, D.isNon, o_add, o_adds, o_addl, o_sub, o_addt, n_split, n_find, o_mul, o_rep, o_div, o_mod, o_pow, c_lt, c_le, c_gt, c_ge, c_lts, c_eq, c_ne, c_is, c_isnot, c_in, c_notin, t_bl, t_non, t_int, t_lst, t_tup, x_lst, x_tup, x_scr, x_str, u_lst, u_scr, u_str, b_lenl, b_lent, b_lenc, b_lens, b_abs, b_max2, b_min2, b_int, b_inb, b_tup, b_srtk, i_lst, i_tup, i_scr, is_n, is_b, exists_eq_left', exists_eq_left, exists_eq_right, Option.some.injEq,  partD, setS, setAll, tgD, tgSlots, wipeE, List.set_cons_zero, List.set_cons_succ, List.set_nil, List.take_nil, List.take_zero, m_f, m_t, r_int, r_bl, r_str, r_non, r_tup, r_lstf, r_lstt, r_v, r_newf, r_newt, List.any_cons, List.any_nil, owned, Bool.or_false, Bool.false_or, fl_bl, fl_int, fl_str, fl_non, fl_rs, exists_eq', Ct.lst.injEq, Ct.ob.injEq, D.kst.injEq, List.take_succ_cons, dat_lst, dat_ob, dat_fz, Option.some.injEq, SV.d.injEq, D.int.injEq, forall_eq', reduceCtorEq, false_implies, forall_const, Bool.false_eq_true, List.set, if_true, if_false, Bool.not_true, Bool.not_false]
    refine ⟨_, a0, ?_⟩
    simp only [fnT, startE, List.length_cons, List.length_nil, List.map_cons, List.map_nil, List.cons_append, List.nil_append, Nat.sub_self, Nat.reduceSub, Nat.reduceAdd, Nat.reduceLT, List.replicate_zero, List.reduceReplicate, List.replicate_succ, wpSs, wpS, wpE, wpEs, wpT, wpI, wpC, List.getElem?_cons_zero, List.getElem?_cons_succ, List.getElem?_nil, den, dens, back, true_and, and_true, nrmE, nrmT, frzSlots, cutV1, frzT, frzL, eq_ii, eq_bb, eq_ss, eq_nn, D.isNon, o_add, o_adds, o_addl, o_sub, o_addt, n_split, n_find, o_mul, o_rep, o_div, o_mod, o_pow, c_lt, c_le, c_gt, c_ge, c_lts, c_eq, c_ne, c_is, c_isnot, c_in, c_notin, t_bl, t_non, t_int, t_lst, t_tup, x_lst, x_tup, x_scr, x_str, u_lst, u_scr, u_str, b_lenl, b_lent, b_lenc, b_lens, b_abs, b_max2, b_min2, b_int, b_inb, b_tup, b_srtk, i_lst, i_tup, i_scr, is_n, is_b, exists_eq_left', exists_eq_left, exists_eq_right, Option.some.injEq,  partD, setS, setAll, tgD, tgSlots, wipeE, List.set_cons_zero, List.set_cons_succ, List.set_nil, List.take_nil, List.take_zero, m_f, m_t, r_int, r_bl, r_str, r_non, r_tup, r_lstf, r_lstt, r_v, r_newf, r_newt, List.any_cons, List.any_nil, owned, Bool.or_false, Bool.false_or, fl_bl, fl_int, fl_str, fl_non, fl_rs, exists_eq', Ct.lst.injEq, Ct.ob.injEq, D.kst.injEq, List.take_succ_cons, dat_lst, dat_ob, dat_fz, Option.some.injEq, SV.d.injEq, D.int.injEq, forall_eq', reduceCtorEq, false_implies, forall_const, Bool.false_eq_true, List.set, if_true, if_false, Bool.not_true, Bool.not_false]
    refine ⟨fun j e l => ∃ (ks : List Int) (y5 y6 : Option SV), e = [some (.d (.lst (iL ws))), some (.d (.int m)), some (.d (.lst (iLL (S0 :: F')))), some (.d (.int w)), some (.c 0), y5, y6] ∧ l = [.ob (.kst ks)] ∧ ks.Nodup ∧ (∀ y ∈ ks, ∃ left p, left ∈ S0 ∧ 0 ≤ p ∧ p < m ∧ y = (left + w * p) % m) ∧ (∀ j' left, j' < j → S0[j']? = some left → ∀ p, 0 ≤ p → p < m → (left + w * p) % m ∈ ks),
      ⟨[], _, _, rfl, rfl, List.nodup_nil, fun y hy => by simp at hy, fun j' left hj => by omega⟩, ?_, ?_⟩
    · rintro j x e l hx ⟨ks, y5, y6, rfl, rfl, hnd, hP, hA⟩
      obtain ⟨left, hleft, rfl⟩ := lst_it hx
      have lb := P0 left (List.mem_of_getElem? hleft)
      simp only [b3_1, fnT, startE, List.length_cons, List.length_nil, List.map_cons, List.map_nil, List.cons_append, List.nil_append, Nat.sub_self, Nat.reduceSub, Nat.reduceAdd, Nat.reduceLT, List.replicate_zero, List.reduceReplicate, List.replicate_succ, wpSs, wpS, wpE, wpEs, wpT, wpI, wpC, List.getElem?_cons_zero, List.getElem?_cons_succ, List.getElem?_nil, den, dens, back, true_and, and_true, nrmE, nrmT, frzSlots, cutV1, frzT, frzL, eq_ii, eq_bb, eq_ss, eq_nn, D.isNon, o_add, o_adds, o_addl, o_sub, o_addt, n_split, n_find, o_mul, o_rep, o_div, o_mod, o_pow, c_lt, c_le, c_gt, c_ge, c_lts, c_eq, c_ne, c_is, c_isnot, c_in, c_notin, t_bl, t_non, t_int, t_lst, t_tup, x_lst, x_tup, x_scr, x_str, u_lst, u_scr, u_str, b_lenl, b_lent, b_lenc, b_lens, b_abs, b_max2, b_min2, b_int, b_inb, b_tup, b_srtk, i_lst, i_tup, i_scr, is_n, is_b, exists_eq_left', exists_eq_left, exists_eq_right, Option.some.injEq,  partD, setS, setAll, tgD, tgSlots, wipeE, List.set_cons_zero, List.set_cons_succ, List.set_nil, List.take_nil, List.take_zero, m_f, m_t, r_int, r_bl, r_str, r_non, r_tup, r_lstf, r_lstt, r_v, r_newf, r_newt, List.any_cons, List.any_nil, owned, Bool.or_false, Bool.false_or, fl_bl, fl_int, fl_str, fl_non, fl_rs, exists_eq', Ct.lst.injEq, Ct.ob.injEq, D.kst.injEq, List.take_succ_cons, dat_lst, dat_ob, dat_fz, Option.some.injEq, SV.d.injEq, D.int.injEq, forall_eq', reduceCtorEq, false_implies, forall_const, Bool.false_eq_true, List.set, if_true, if_false, Bool.not_true, Bool.not_false]
      refine ⟨by omega, by omega, fun q e l => ∃ (ks : List Int) (y6 : Option SV), e = [some (.d (.lst (iL ws))), some (.d (.int m)), some (.d (.lst (iLL (S0 :: F')))), some (.d (.int w)), some (.c 0), some (.d (.int left)), y6] ∧ l = [.ob (.kst ks)] ∧ ks.Nodup ∧ (∀ y ∈ ks, ∃ left p, left ∈ S0 ∧ 0 ≤ p ∧ p < m ∧ y = (left + w * p) % m) ∧ (∀ j' left, j' < j → S0[j']? = some left → ∀ p, 0 ≤ p → p < m → (left + w * p) % m ∈ ks) ∧ (∀ p, 0 ≤ p → p < (q : Int) → (left + w * p) % m ∈ ks),
        ⟨ks, _, rfl, rfl, hnd, hP, hA, fun p a b => by omega⟩, ?_, ?_⟩
      · rintro q x e l hx ⟨ks, y6, rfl, rfl, hnd, hP, hA, hB⟩
        obtain ⟨hq, rfl⟩ := rng_it hx
        simp only [b3_0, fnT, startE, List.length_cons, List.length_nil, List.map_cons, List.map_nil, List.cons_append, List.nil_append, Nat.sub_self, Nat.reduceSub, Nat.reduceAdd, Nat.reduceLT, List.replicate_zero, List.reduceReplicate, List.replicate_succ, wpSs, wpS, wpE, wpEs, wpT, wpI, wpC, List.getElem?_cons_zero, List.getElem?_cons_succ, List.getElem?_nil, den, dens, back, true_and, and_true, nrmE, nrmT, frzSlots, cutV1, frzT, frzL, eq_ii, eq_bb, eq_ss, eq_nn, D.isNon, o_add, o_adds, o_addl, o_sub, o_addt, n_split, n_find, o_mul, o_rep, o_div, o_mod, o_pow, c_lt, c_le, c_gt, c_ge, c_lts, c_eq, c_ne, c_is, c_isnot, c_in, c_notin, t_bl, t_non, t_int, t_lst, t_tup, x_lst, x_tup, x_scr, x_str, u_lst, u_scr, u_str, b_lenl, b_lent, b_lenc, b_lens, b_abs, b_max2, b_min2, b_int, b_inb, b_tup, b_srtk, i_lst, i_tup, i_scr, is_n, is_b, exists_eq_left', exists_eq_left, exists_eq_right, Option.some.injEq,  partD, setS, setAll, tgD, tgSlots, wipeE, List.set_cons_zero, List.set_cons_succ, List.set_nil, List.take_nil, List.take_zero, m_f, m_t, r_int, r_bl, r_str, r_non, r_tup, r_lstf, r_lstt, r_v, r_newf, r_newt, List.any_cons, List.any_nil, owned, Bool.or_false, Bool.false_or, fl_bl, fl_int, fl_str, fl_non, fl_rs, exists_eq', Ct.lst.injEq, Ct.ob.injEq, D.kst.injEq, List.take_succ_cons, dat_lst, dat_ob, dat_fz, Option.some.injEq, SV.d.injEq, D.int.injEq, forall_eq', reduceCtorEq, false_implies, forall_const, Bool.false_eq_true, List.set, if_true, if_false, Bool.not_true, Bool.not_false]
        have kl := key_few hm hm2 hnd hP
        refine ⟨mul_of 10 10 (by omega) (by omega) (by decide), hm, sizeLine_lt (by omega), putI ks ((left + w * (q : Int)) % m), _, rfl, rfl, putI_nodup hnd, fun y hy => ?_, fun j' left' hj' hl' p a b => putI_mem.mpr (.inl (hA j' left' hj' hl' p a b)), fun p a b => ?_⟩
        · rcases putI_mem.mp hy with h1 | h1
          · exact hP y h1
          · exact ⟨left, q, List.mem_of_getElem? hleft, by omega, by omega, h1⟩
        · by_cases hpq : p = (q : Int)
          · subst hpq; exact putI_mem.mpr (.inr rfl)
          · exact putI_mem.mpr (.inl (hB p a (by omega)))
      · rintro e l ⟨ks, y6, rfl, rfl, hnd, hP, hA, hB⟩
        simp only [fnT, startE, List.length_cons, List.length_nil, List.map_cons, List.map_nil, List.cons_append, List.nil_append, Nat.sub_self, Nat.reduceSub, Nat.reduceAdd, Nat.reduceLT, List.replicate_zero, List.reduceReplicate, List.replicate_succ, wpSs, wpS, wpE, wpEs, wpT, wpI, wpC, List.getElem?_cons_zero, List.getElem?_cons_succ, List.getElem?_nil, den, dens, back, true_and, and_true, nrmE, nrmT, frzSlots, cutV1, frzT, frzL, eq_ii, eq_bb, eq_ss, eq_nn, D.isNon, o_add, o_adds, o_addl, o_sub, o_addt, n_split, n_find, o_mul, o_rep, o_div, o_mod, o_pow, c_lt, c_le, c_gt, c_ge, c_lts, c_eq, c_ne, c_is, c_isnot, c_in, c_notin, t_bl, t_non, t_int, t_lst, t_tup, x_lst, x_tup, x_scr, x_str, u_lst, u_scr, u_str, b_lenl, b_lent, b_lenc, b_lens, b_abs, b_max2, b_min2, b_int, b_inb, b_tup, b_srtk, i_lst, i_tup, i_scr, is_n, is_b, exists_eq_left', exists_eq_left, exists_eq_right, Option.some.injEq,  partD, setS, setAll, tgD, tgSlots, wipeE, List.set_cons_zero, List.set_cons_succ, List.set_nil, List.take_nil, List.take_zero, m_f, m_t, r_int, r_bl, r_str, r_non, r_tup, r_lstf, r_lstt, r_v, r_newf, r_newt, List.any_cons, List.any_nil, owned, Bool.or_false, Bool.false_or, fl_bl, fl_int, fl_str, fl_non, fl_rs, exists_eq', Ct.lst.injEq, Ct.ob.injEq, D.kst.injEq, List.take_succ_cons, dat_lst, dat_ob, dat_fz, Option.some.injEq, SV.d.injEq, D.int.injEq, forall_eq', reduceCtorEq, false_implies, forall_const, Bool.false_eq_true, List.set, if_true, if_false, Bool.not_true, Bool.not_false]
        rw [rng_len] at hB
        refine ⟨ks, _, _, rfl, rfl, hnd, hP, fun j' left' hj' hl' p a b => ?_⟩
        by_cases hjj : j' = j
        · subst hjj; rw [hleft] at hl'; cases hl'; exact hB p a (by omega)
        · exact hA j' left' (by omega) hl' p a b
    · rintro e l ⟨ks, y5, y6, rfl, rfl, hnd, hP, hA⟩
      simp only [fnT, startE, List.length_cons, List.length_nil, List.map_cons, List.map_nil, List.cons_append, List.nil_append, Nat.sub_self, Nat.reduceSub, Nat.reduceAdd, Nat.reduceLT, List.replicate_zero, List.reduceReplicate, List.replicate_succ, wpSs, wpS, wpE, wpEs, wpT, wpI, wpC, List.getElem?_cons_zero, List.getElem?_cons_succ, List.getElem?_nil, den, dens, back, true_and, and_true, nrmE, nrmT, frzSlots, cutV1, frzT, frzL, eq_ii, eq_bb, eq_ss, eq_nn, D.isNon, o_add, o_adds, o_addl, o_sub, o_addt, n_split, n_find, o_mul, o_rep, o_div, o_mod, o_pow, c_lt, c_le, c_gt, c_ge, c_lts, c_eq, c_ne, c_is, c_isnot, c_in, c_notin, t_bl, t_non, t_int, t_lst, t_tup, x_lst, x_tup, x_scr, x_str, u_lst, u_scr, u_str, b_lenl, b_lent, b_lenc, b_lens, b_abs, b_max2, b_min2, b_int, b_inb, b_tup, b_srtk, i_lst, i_tup, i_scr, is_n, is_b, exists_eq_left', exists_eq_left, exists_eq_right, Option.some.injEq,  partD, setS, setAll, tgD, tgSlots, wipeE, List.set_cons_zero, List.set_cons_succ, List.set_nil, List.take_nil, List.take_zero, m_f, m_t, r_int, r_bl, r_str, r_non, r_tup, r_lstf, r_lstt, r_v, r_newf, r_newt, List.any_cons, List.any_nil, owned, Bool.or_false, Bool.false_or, fl_bl, fl_int, fl_str, fl_non, fl_rs, exists_eq', Ct.lst.injEq, Ct.ob.injEq, D.kst.injEq, List.take_succ_cons, dat_lst, dat_ob, dat_fz, Option.some.injEq, SV.d.injEq, D.int.injEq, forall_eq', reduceCtorEq, false_implies, forall_const, Bool.false_eq_true, List.set, if_true, if_false, Bool.not_true, Bool.not_false]
      have kl := key_few hm hm2 hnd hP
      refine ⟨by omega, fun ns' hp hs => ⟨sizeLine_big (by decide), sizeLine_big (by simp at hF ⊢; omega), ns' :: S0 :: F', _, _, _, _, rfl, by simp at hF ⊢; omega, hi2, fun j S hS => ?_⟩⟩
      cases j with
      | zero =>
        simp at hS
        subst hS
        have e : ws.drop (ws.length - (i + 1) + 0) = w :: ws.drop (ws.length - i) := by
          have h1 : ws.length - (i + 1) < ws.length := by omega
          rw [Nat.add_zero, List.drop_eq_getElem_cons h1, show ws.length - (i + 1) + 1 = ws.length - i by omega]
          have h2 := (List.getElem?_eq_some_iff.mp hw).2
          congr 1
          rw [← h2]
          congr 1
          omega
        rw [e]
        refine Ok.cons hm hS0 fun y => ⟨fun hy => hP y (hp.mem_iff.mp hy), ?_⟩
        rintro ⟨left, p, hl1, p0, p1, rfl⟩
        obtain ⟨j', hj'⟩ := List.getElem?_of_mem hl1
        have hj2 := (List.getElem?_eq_some_iff.mp hj').1
        exact hp.mem_iff.mpr (hA j' left (by simpa using hj2) hj' p p0 p1)
      | succ j =>
        have hS' : (S0 :: F')[j]? = some S := by simpa using hS
        have := hO j S hS'
        rw [show ws.length - (i + 1) + (j + 1) = ws.length - i + j by omega]
        exact this
  · rintro e l ⟨rfl, F, x3, x4, x5, x6, rfl, hF, hi, hO⟩
    have e : (iL ws).reverse.length = ws.length := by simp
    rw [e] at hF hO
    refine h F hF fun j S hS => ?_
    have := hO j S hS
    rw [Nat.sub_self, Nat.zero_add] at this
    exact this
end K03

namespace K03
open PySem L2 PD
theorem in_ints {x : Int} {S : List Int} {k : Bool → Prop} (h : k (decide (x ∈ S))) : inD (.int x) (.lst (iL S)) k := ⟨rfl, flat_ints S, by rw [inL_ints]; exact h⟩
theorem dot_snoc {w p : Int} : ∀ {ws ps : List Int}, ws.length = ps.length → dot (ws ++ [w]) (ps ++ [p]) = dot ws ps + w * p
  | [], [], _ => by unfold dot; simp
  | a :: ws, [], h => by simp at h
  | [], b :: ps, h => by simp at h
  | a :: ws, b :: ps, h => by
    rw [List.cons_append, List.cons_append, dot_cons, dot_cons, dot_snoc (by simpa using h)]
    omega
noncomputable def fil (S : List Int) (left w m : Int) (j : Nat) : List Int := ((List.range j).map fun (i : Nat) => (i : Int)).filter fun p => decide ((left - w * p) % m ∈ S)
theorem fil_succ {S : List Int} {left w m : Int} {j : Nat} : fil S left w m (j + 1) = fil S left w m j ++ (if (left - w * (j : Int)) % m ∈ S then [(j : Int)] else []) := by
  unfold fil
  rw [List.range_succ, List.map_append, List.filter_append]
  simp [List.filter_cons]
theorem fil_mem {S : List Int} {left w m p : Int} {j : Nat} : p ∈ fil S left w m j ↔ (0 ≤ p ∧ p < j) ∧ (left - w * p) % m ∈ S := by
  unfold fil
  rw [List.mem_filter, decide_eq_true_iff]
  constructor
  · rintro ⟨h, h2⟩
    simp at h
    obtain ⟨a, ha, rfl⟩ := h
    exact ⟨by omega, h2⟩
  · rintro ⟨h, h2⟩
    refine ⟨?_, h2⟩
    simp
    exact ⟨p.toNat, by omega, by omega⟩
theorem fil_len {S : List Int} {left w m : Int} {j : Nat} : (fil S left w m j).length ≤ j := by
  unfold fil
  exact Nat.le_trans (List.length_filter_le _ _) (by simp)
theorem s_first {n : Nat} {ws : List Int} {rest m : Int} {k z} (hm : 0 < m) (hm2 : m ≤ 26) (hL : Lt ws m) (hl : ws.length ≤ 1000) (h1 : ∀ ps, ps.length = ws.length → Lt ps m → (dot ws ps - rest) % m = 0 → k (.v (.lst (iL ps)))) (h2 : ¬ Reach ws m rest → k (.v .non)) :
    wpF fnT gcT (n+2) 4 [.lst (iL ws), .int rest, .int m] k z := by
  unfold wpF
  simp only [f4, b4, fnT, startE, List.length_cons, List.length_nil, List.map_cons, List.map_nil, List.cons_append, List.nil_append, Nat.sub_self, Nat.reduceSub, Nat.reduceAdd, Nat.reduceLT, List.replicate_zero, List.reduceReplicate, List.replicate_succ, wpSs, wpS, wpE, wpEs, wpT, wpI, wpC, List.getElem?_cons_zero, List.getElem?_cons_succ, List.getElem?_nil, den, dens, back, true_and, and_true, nrmE, nrmT, frzSlots, cutV1, frzT, frzL, eq_ii, eq_bb, eq_ss, eq_nn, D.isNon, o_add, o_adds, o_addl, o_sub, o_addt, n_split, n_find, o_mul, o_rep, o_div, o_mod, o_pow, c_lt, c_le, c_gt, c_ge, c_lts, c_eq, c_ne, c_is, c_isnot, c_in, c_notin, t_bl, t_non, t_int, t_lst, t_tup, x_lst, x_tup, x_scr, x_str, u_lst, u_scr, u_str, b_lenl, b_lent, b_lenc, b_lens, b_abs, b_max2, b_min2, b_int, b_inb, b_tup, b_srtk, i_lst, i_tup, i_scr, is_n, is_b, exists_eq_left', exists_eq_left, exists_eq_right, Option.some.injEq,  partD, setS, setAll, tgD, tgSlots, wipeE, List.set_cons_zero, List.set_cons_succ, List.set_nil, List.take_nil, List.take_zero, m_f, m_t, r_int, r_bl, r_str, r_non, r_tup, r_lstf, r_lstt, r_v, r_newf, r_newt, List.any_cons, List.any_nil, owned, Bool.or_false, Bool.false_or, fl_bl, fl_int, fl_str, fl_non, fl_rs, exists_eq', Ct.lst.injEq, Ct.ob.injEq, D.kst.injEq, List.take_succ_cons, dat_lst, dat_ob, dat_fz, Option.some.injEq, SV.d.injEq, D.int.injEq, forall_eq', reduceCtorEq, false_implies, forall_const, Bool.false_eq_true, List.set, if_true, if_false, Bool.not_true, Bool.not_false]
  refine s_reached hm hm2 hL hl fun F hF hO => ?_
  obtain ⟨S0, F', rfl⟩ : ∃ S0 F', F = S0 :: F' := by
    cases F with
    | nil => simp at hF
    | cons a b => exact ⟨a, b, rfl⟩
  have hS0 : Ok S0 ws m := hO 0 S0 rfl
  have a0 : atI (iLL (S0 :: F')) 0 = some (.lst (iL S0)) := getl (i := 0) rfl
  simp only [a0, fnT, startE, List.length_cons, List.length_nil, List.map_cons, List.map_nil, List.cons_append, List.nil_append, Nat.sub_self, Nat.reduceSub, Nat.reduceAdd, Nat.reduceLT, List.replicate_zero, List.reduceReplicate, List.replicate_succ, wpSs, wpS, wpE, wpEs, wpT, wpI, wpC, List.getElem?_cons_zero, List.getElem?_cons_succ, List.getElem?_nil, den, dens, back, true_and, and_true, nrmE, nrmT, frzSlots, cutV1, frzT, frzL, eq_ii, eq_bb, eq_ss, eq_nn, D.isNon, o_add, o_adds, o_addl, o_sub, o_addt, n_split, n_find, o_mul, o_rep, o_div, o_mod, o_pow, c_lt, c_le, c_gt, c_ge, c_lts, c_eq, c_ne, c_is, c_isnot, c_in, c_notin, t_bl, t_non, t_int, t_lst, t_tup, x_lst, x_tup, x_scr, x_str, u_lst, u_scr, u_str, b_lenl, b_lent, b_lenc, b_lens, b_abs, b_max2, b_min2, b_int, b_inb, b_tup, b_srtk, i_lst, i_tup, i_scr, is_n, is_b, exists_eq_left', exists_eq_left, exists_eq_right, Option.some.injEq,  partD, setS, setAll, tgD, tgSlots, wipeE, List.set_cons_zero, List.set_cons_succ, List.set_nil, List.take_nil, List.take_zero, m_f, m_t, r_int, r_bl, r_str, r_non, r_tup, r_lstf, r_lstt, r_v, r_newf, r_newt, List.any_cons, List.any_nil, owned, Bool.or_false, Bool.false_or, fl_bl, fl_int, fl_str, fl_non, fl_rs, exists_eq', Ct.lst.injEq, Ct.ob.injEq, D.kst.injEq, List.take_succ_cons, dat_lst, dat_ob, dat_fz, Option.some.injEq, SV.d.injEq, D.int.injEq, forall_eq', reduceCtorEq, false_implies, forall_const, Bool.false_eq_true, List.set, if_true, if_false, Bool.not_true, Bool.not_false]
  refine ⟨hm, _, a0, in_ints ⟨fun h0 => h2 fun hr => ?_, fun h0 => ?_⟩⟩
  · have : rest % m ∈ S0 := (hS0 _).mpr ⟨Int.emod_nonneg _ (by omega), Int.emod_lt_of_pos _ hm, reach_mod.mpr hr⟩
    simp [this] at h0
  · have hr0 : rest % m ∈ S0 := by simpa using h0
    obtain ⟨q0, q1, q2⟩ := (hS0 _).mp hr0
    simp only [b4_3, fnT, startE, List.length_cons, List.length_nil, List.map_cons, List.map_nil, List.cons_append, List.nil_append, Nat.sub_self, Nat.reduceSub, Nat.reduceAdd, Nat.reduceLT, List.replicate_zero, List.reduceReplicate, List.replicate_succ, wpSs, wpS, wpE, wpEs, wpT, wpI, wpC, List.getElem?_cons_zero, List.getElem?_cons_succ, List.getElem?_nil, den, dens, back, true_and, and_true, nrmE, nrmT, frzSlots, cutV1, frzT, frzL, eq_ii, eq_bb, eq_ss, eq_nn, D.isNon, o_add, o_adds, o_addl, o_sub, o_addt, n_split, n_find, o_mul, o_rep, o_div, o_mod, o_pow, c_lt, c_le, c_gt, c_ge, c_lts, c_eq, c_ne, c_is, c_isnot, c_in, c_notin, t_bl, t_non, t_int, t_lst, t_tup, x_lst, x_tup, x_scr, x_str, u_lst, u_scr, u_str, b_lenl, b_lent, b_lenc, b_lens, b_abs, b_max2, b_min2, b_int, b_inb, b_tup, b_srtk, i_lst, i_tup, i_scr, is_n, is_b, exists_eq_left', exists_eq_left, exists_eq_right, Option.some.injEq,  partD, setS, setAll, tgD, tgSlots, wipeE, List.set_cons_zero, List.set_cons_succ, List.set_nil, List.take_nil, List.take_zero, m_f, m_t, r_int, r_bl, r_str, r_non, r_tup, r_lstf, r_lstt, r_v, r_newf, r_newt, List.any_cons, List.any_nil, owned, Bool.or_false, Bool.false_or, fl_bl, fl_int, fl_str, fl_non, fl_rs, exists_eq', Ct.lst.injEq, Ct.ob.injEq, D.kst.injEq, List.take_succ_cons, dat_lst, dat_ob, dat_fz, Option.some.injEq, SV.d.injEq, D.int.injEq, forall_eq', reduceCtorEq, false_implies, forall_const, Bool.false_eq_true, List.set, if_true, if_false, Bool.not_true, Bool.not_false]
    refine ⟨Nat.zero_le _, fun i e l => ∃ (ps : List Int) (left : Int) (x6 x7 x8 x9 : Option SV), e = [some (.d (.lst (iL ws))), some (.d (.int rest)), some (.d (.int m)), some (.d (.lst (iLL (S0 :: F')))), some (.d (.int left)), some (.c 0), x6, x7, x8, x9] ∧ l = [.lst (iL ps)] ∧ ps.length = i ∧ Lt ps m ∧ 0 ≤ left ∧ left < m ∧ Reach (ws.drop i) m left ∧ (dot (ws.take i) ps + left - rest) % m = 0,
      ⟨[], rest % m, none, none, none, none, rfl, rfl, rfl, Lt.nil, q0, q1, q2, ?_⟩, ?_, ?_⟩
    · unfold dot
      simp [Int.emod_sub_emod]
    · rintro i x e l hx ⟨ps, left, x6, x7, x8, x9, rfl, rfl, hp, hP, l0, l1, hR, hD⟩
      obtain ⟨w, hw, rfl⟩ := enu_it hx
      have wb := hL w (List.mem_of_getElem? hw)
      have hi := (List.getElem?_eq_some_iff.mp hw).1
      have hS : ∃ S, (S0 :: F')[i + 1]? = some S := ⟨_, List.getElem?_eq_getElem (by omega)⟩
      obtain ⟨S, hS⟩ := hS
      have hSO := hO _ _ hS
      have a1 : atI (iLL (S0 :: F')) ((i : Int) + 1) = some (.lst (iL S)) := by
        rw [show ((i : Int) + 1) = ((i + 1 : Nat) : Int) by omega]
        exact getl (by unfold iLL; rw [List.getElem?_map, hS]; rfl)
      have ed : ws.drop i = w :: ws.drop (i + 1) := by
        rw [List.drop_eq_getElem_cons hi, (List.getElem?_eq_some_iff.mp hw).2]
      have et : ws.take (i + 1) = ws.take i ++ [w] := by rw [List.take_add_one, hw]; rfl
      simp only [b4_2, fnT, startE, List.length_cons, List.length_nil, List.map_cons, List.map_nil, List.cons_append, List.nil_append, Nat.sub_self, Nat.reduceSub, Nat.reduceAdd, Nat.reduceLT, List.replicate_zero, List.reduceReplicate, List.replicate_succ, wpSs, wpS, wpE, wpEs, wpT, wpI, wpC, List.getElem?_cons_zero, List.getElem?_cons_succ, List.getElem?_nil, den, dens, back, true_and, and_true, nrmE, nrmT, frzSlots, cutV1, frzT, frzL, eq_ii, eq_bb, eq_ss, eq_nn, D.isNon, o_add, o_adds, o_addl, o_sub, o_addt, n_split, n_find, o_mul, o_rep, o_div, o_mod, o_pow, c_lt, c_le, c_gt, c_ge, c_lts, c_eq, c_ne, c_is, c_isnot, c_in, c_notin, t_bl, t_non, t_int, t_lst, t_tup, x_lst, x_tup, x_scr, x_str, u_lst, u_scr, u_str, b_lenl, b_lent, b_lenc, b_lens, b_abs, b_max2, b_min2, b_int, b_inb, b_tup, b_srtk, i_lst, i_tup, i_scr, is_n, is_b, exists_eq_left', exists_eq_left, exists_eq_right, Option.some.injEq,  partD, setS, setAll, tgD, tgSlots, wipeE, List.set_cons_zero, List.set_cons_succ, List.set_nil, List.take_nil, List.take_zero, m_f, m_t, r_int, r_bl, r_str, r_non, r_tup, r_lstf, r_lstt, r_v, r_newf, r_newt, List.any_cons, List.any_nil, owned, Bool.or_false, Bool.false_or, fl_bl, fl_int, fl_str, fl_non, fl_rs, exists_eq', Ct.lst.injEq, Ct.ob.injEq, D.kst.injEq, List.take_succ_cons, dat_lst, dat_ob, dat_fz, Option.some.injEq, SV.d.injEq, D.int.injEq, forall_eq', reduceCtorEq, false_implies, forall_const, Bool.false_eq_true, List.set, if_true, if_false, Bool.not_true, Bool.not_false]
      refine ⟨by omega, by omega, fun j acc => acc = iL (fil S left w m j), rfl, ?_, ?_⟩
      · rintro j x acc hx rfl
        obtain ⟨hj, rfl⟩ := rng_it hx
        simp only [b4_0, b4_1, fnT, startE, List.length_cons, List.length_nil, List.map_cons, List.map_nil, List.cons_append, List.nil_append, Nat.sub_self, Nat.reduceSub, Nat.reduceAdd, Nat.reduceLT, List.replicate_zero, List.reduceReplicate, List.replicate_succ, wpSs, wpS, wpE, wpEs, wpT, wpI, wpC, List.getElem?_cons_zero, List.getElem?_cons_succ, List.getElem?_nil, den, dens, back, true_and, and_true, nrmE, nrmT, frzSlots, cutV1, frzT, frzL, eq_ii, eq_bb, eq_ss, eq_nn, D.isNon, o_add, o_adds, o_addl, o_sub, o_addt, n_split, n_find, o_mul, o_rep, o_div, o_mod, o_pow, c_lt, c_le, c_gt, c_ge, c_lts, c_eq, c_ne, c_is, c_isnot, c_in, c_notin, t_bl, t_non, t_int, t_lst, t_tup, x_lst, x_tup, x_scr, x_str, u_lst, u_scr, u_str, b_lenl, b_lent, b_lenc, b_lens, b_abs, b_max2, b_min2, b_int, b_inb, b_tup, b_srtk, i_lst, i_tup, i_scr, is_n, is_b, exists_eq_left', exists_eq_left, exists_eq_right, Option.some.injEq,  partD, setS, setAll, tgD, tgSlots, wipeE, List.set_cons_zero, List.set_cons_succ, List.set_nil, List.take_nil, List.take_zero, m_f, m_t, r_int, r_bl, r_str, r_non, r_tup, r_lstf, r_lstt, r_v, r_newf, r_newt, List.any_cons, List.any_nil, owned, Bool.or_false, Bool.false_or, fl_bl, fl_int, fl_str, fl_non, fl_rs, exists_eq', Ct.lst.injEq, Ct.ob.injEq, D.kst.injEq, List.take_succ_cons, dat_lst, dat_ob, dat_fz, Option.some.injEq, SV.d.injEq, D.int.injEq, forall_eq', reduceCtorEq, false_implies, forall_const, Bool.false_eq_true, List.set, if_true, if_false, Bool.not_true, Bool.not_false]
        refine ⟨mul_of 10 10 (by omega) (by omega) (by decide), hm, _, a1, in_ints ⟨⟨[], rfl⟩, fun h1 => ?_, fun h1 => ?_⟩⟩
        · have : (left - w * (j : Int)) % m ∈ S := by simpa using h1
          exact ⟨_, [], rfl, rfl, sizeLine_lt (by rw [len_ints]; have := fil_len (S := S) (left := left) (w := w) (m := m) (j := j); omega), by rw [fil_succ, if_pos this]; simp⟩
        · have : ¬ (left - w * (j : Int)) % m ∈ S := by simpa using h1
          rw [fil_succ, if_neg this]; simp
      · rintro acc rfl
        rw [rng_len]
        rw [ed, reach_cons] at hR
        obtain ⟨p0, b0, b1, r0⟩ := hR
        have inn : p0 ∈ fil S left w m m.toNat := fil_mem.mpr ⟨⟨b0, by omega⟩, (hSO _).mpr ⟨Int.emod_nonneg _ (by omega), Int.emod_lt_of_pos _ hm, r0⟩⟩
        obtain ⟨p, tl, ep⟩ : ∃ p tl, fil S left w m m.toNat = p :: tl := by
          cases q : fil S left w m m.toNat with
          | nil => rw [q] at inn; simp at inn
          | cons a b => exact ⟨a, b, rfl⟩
        have hpm := fil_mem.mp (show p ∈ fil S left w m m.toNat by rw [ep]; simp)
        rw [ep]
        have a2 : atI (iL (p :: tl)) 0 = some (.int p) := getl (i := 0) rfl
        refine ⟨_, a2, ?_⟩
        simp only [fnT, startE, List.length_cons, List.length_nil, List.map_cons, List.map_nil, List.cons_append, List.nil_append, Nat.sub_self, Nat.reduceSub, Nat.reduceAdd, Nat.reduceLT, List.replicate_zero, List.reduceReplicate, List.replicate_succ, wpSs, wpS, wpE, wpEs, wpT, wpI, wpC, List.getElem?_cons_zero, List.getElem?_cons_succ, List.getElem?_nil, den, dens, back, true_and, and_true, nrmE, nrmT, frzSlots, cutV1, frzT, frzL, eq_ii, eq_bb, eq_ss, eq_nn, D.isNon, o_add, o_adds, o_addl, o_sub, o_addt, n_split, n_find, o_mul, o_rep, o_div, o_mod, o_pow, c_lt, c_le, c_gt, c_ge, c_lts, c_eq, c_ne, c_is, c_isnot, c_in, c_notin, t_bl, t_non, t_int, t_lst, t_tup, x_lst, x_tup, x_scr, x_str, u_lst, u_scr, u_str, b_lenl, b_lent, b_lenc, b_lens, b_abs, b_max2, b_min2, b_int, b_inb, b_tup, b_srtk, i_lst, i_tup, i_scr, is_n, is_b, exists_eq_left', exists_eq_left, exists_eq_right, Option.some.injEq,  partD, setS, setAll, tgD, tgSlots, wipeE, List.set_cons_zero, List.set_cons_succ, List.set_nil, List.take_nil, List.take_zero, m_f, m_t, r_int, r_bl, r_str, r_non, r_tup, r_lstf, r_lstt, r_v, r_newf, r_newt, List.any_cons, List.any_nil, owned, Bool.or_false, Bool.false_or, fl_bl, fl_int, fl_str, fl_non, fl_rs, exists_eq', Ct.lst.injEq, Ct.ob.injEq, D.kst.injEq, List.take_succ_cons, dat_lst, dat_ob, dat_fz, Option.some.injEq, SV.d.injEq, D.int.injEq, forall_eq', reduceCtorEq, false_implies, forall_const, Bool.false_eq_true, List.set, if_true, if_false, Bool.not_true, Bool.not_false]
        obtain ⟨g0, g1, g2⟩ := (hSO _).mp hpm.2
        refine ⟨mul_of 10 10 (by omega) (by omega) (by decide), hm, _, a2, sizeLine_lt (by rw [len_ints]; omega), ps ++ [p], (left - w * p) % m, _, _, _, _, rfl, by rw [app_ints], by simp [hp], hP.snoc hpm.1.1 (by omega), g0, g1, g2, ?_⟩
        rw [et, dot_snoc (by rw [List.length_take]; omega)]
        rw [show dot (ws.take i) ps + w * p + (left - w * p) % m - rest = (left - w * p) % m + (dot (ws.take i) ps + w * p - rest) by omega, Int.emod_add_emod,
          show left - w * p + (dot (ws.take i) ps + w * p - rest) = dot (ws.take i) ps + left - rest by omega]
        exact hD
    · rintro e l ⟨ps, left, x6, x7, x8, x9, rfl, rfl, hp, hP, l0, l1, hR, hD⟩
      simp only [fnT, startE, List.length_cons, List.length_nil, List.map_cons, List.map_nil, List.cons_append, List.nil_append, Nat.sub_self, Nat.reduceSub, Nat.reduceAdd, Nat.reduceLT, List.replicate_zero, List.reduceReplicate, List.replicate_succ, wpSs, wpS, wpE, wpEs, wpT, wpI, wpC, List.getElem?_cons_zero, List.getElem?_cons_succ, List.getElem?_nil, den, dens, back, true_and, and_true, nrmE, nrmT, frzSlots, cutV1, frzT, frzL, eq_ii, eq_bb, eq_ss, eq_nn, D.isNon, o_add, o_adds, o_addl, o_sub, o_addt, n_split, n_find, o_mul, o_rep, o_div, o_mod, o_pow, c_lt, c_le, c_gt, c_ge, c_lts, c_eq, c_ne, c_is, c_isnot, c_in, c_notin, t_bl, t_non, t_int, t_lst, t_tup, x_lst, x_tup, x_scr, x_str, u_lst, u_scr, u_str, b_lenl, b_lent, b_lenc, b_lens, b_abs, b_max2, b_min2, b_int, b_inb, b_tup, b_srtk, i_lst, i_tup, i_scr, is_n, is_b, exists_eq_left', exists_eq_left, exists_eq_right, Option.some.injEq,  partD, setS, setAll, tgD, tgSlots, wipeE, List.set_cons_zero, List.set_cons_succ, List.set_nil, List.take_nil, List.take_zero, m_f, m_t, r_int, r_bl, r_str, r_non, r_tup, r_lstf, r_lstt, r_v, r_newf, r_newt, List.any_cons, List.any_nil, owned, Bool.or_false, Bool.false_or, fl_bl, fl_int, fl_str, fl_non, fl_rs, exists_eq', Ct.lst.injEq, Ct.ob.injEq, D.kst.injEq, List.take_succ_cons, dat_lst, dat_ob, dat_fz, Option.some.injEq, SV.d.injEq, D.int.injEq, forall_eq', reduceCtorEq, false_implies, forall_const, Bool.false_eq_true, List.set, if_true, if_false, Bool.not_true, Bool.not_false]
      have e1 : ((iL ws).zipIdx.map fun p => D.tup [.int ((p.2 : Nat) : Int), p.1]).length = ws.length := by simp
      rw [e1] at hp hR hD
      rw [List.drop_length] at hR
      have e0 := (reach_nil l0 l1).mp hR
      subst e0
      rw [List.take_length, Int.add_zero] at hD
      exact h1 ps hp hP hD
end K03

namespace K03
open PySem L2 PD
theorem dot_set {w p v : Int} : ∀ {ws ps : List Int} {k : Nat}, ws[k]? = some w → ps[k]? = some p → dot ws (ps.set k v) = dot ws ps + w * (v - p)
  | [], _, _, h, _ => by simp at h
  | _ :: _, [], _, _, h => by simp at h
  | a :: ws, b :: ps, 0, h, h' => by
    simp at h h'
    subst h; subst h'
    rw [List.set_cons_zero, dot_cons, dot_cons, Int.mul_sub]
    omega
  | a :: ws, b :: ps, k + 1, h, h' => by
    rw [List.set_cons_succ, dot_cons, dot_cons, dot_set (ws := ws) (ps := ps) (k := k) (by simpa using h) (by simpa using h')]
    omega
/-- two words a fault apart -/
structure Pair (ws : List Int) (rest m : Int) (ps qs : List Int) : Prop where
  l1 : ps.length = ws.length
  l2 : qs.length = ws.length
  b1 : Lt ps m
  b2 : Lt qs m
  g1 : (dot ws ps - rest) % m = 0
  g2 : (dot ws qs - rest) % m = 0
  one : (∃ k, k < ws.length ∧ ∀ j, ps[j]? ≠ qs[j]? ↔ j = k) ∨ ∃ k, k + 1 < ws.length ∧ (∀ j, ps[j]? ≠ qs[j]? ↔ (j = k ∨ j = k + 1)) ∧ ps[k]? = qs[k + 1]? ∧ ps[k + 1]? = qs[k]?
theorem set_form {α : Type} {xs : List α} {k : Nat} {v : α} (hk : k < xs.length) : xs.take k ++ [v] ++ xs.drop (k + 1) = xs.set k v := by
  rw [List.set_eq_take_append_cons_drop, if_pos hk]
  simp
theorem pair_ex {ws ps : List Int} {rest m w p part : Int} {k : Nat} (hm : 0 < m) (l1 : ps.length = ws.length) (b1 : Lt ps m) (g1 : (dot ws ps - rest) % m = 0) (hw : ws[k]? = some w) (hp : ps[k]? = some p) (h1 : 1 ≤ part) (h2 : part < m) (h3 : w * part % m = 0) :
    Pair ws rest m ps (ps.set k ((p + part) % m)) := by
  have hk := (List.getElem?_eq_some_iff.mp hw).1
  have pb := b1 p (List.mem_of_getElem? hp)
  have ne : (p + part) % m ≠ p := fun e => by
    by_cases q : p + part < m
    · rw [Int.emod_eq_of_lt (by omega) q] at e; omega
    · have : (p + part) % m = p + part - m := by
        rw [← Int.sub_emod_right, Int.emod_eq_of_lt (by omega) (by omega)]
      omega
  refine ⟨l1, by simp [l1], b1, b1.set (Int.emod_nonneg _ (by omega)) (Int.emod_lt_of_pos _ hm), g1, ?_, .inl ⟨k, hk, fun j => ?_⟩⟩
  · rw [dot_set hw hp]
    have e : w * ((p + part) % m - p) = w * part - m * (w * ((p + part) / m)) := by
      rw [Int.emod_def, show p + part - m * ((p + part) / m) - p = part - m * ((p + part) / m) by omega, Int.mul_sub, ← Int.mul_assoc, Int.mul_comm w m, Int.mul_assoc]
    rw [e, show dot ws ps + (w * part - m * (w * ((p + part) / m))) - rest = (dot ws ps - rest) + w * part - m * (w * ((p + part) / m)) by omega, Int.sub_mul_emod_self_left]
    rw [Int.add_emod, g1, h3]
    simp
  · by_cases q : j = k
    · subst q
      rw [hp, List.getElem?_set_self (by omega)]
      simp
      exact fun e => ne e.symm
    · rw [List.getElem?_set_ne (Ne.symm q)]
      simp [q]
theorem s_exchanged {n : Nat} {ws : List Int} {rest m : Int} {k z} (hm : 1 < m) (hm2 : m ≤ 26) (hL : Lt ws m) (hl : ws.length ≤ 1000) (hs : ∃ w ∈ ws, Int.gcd w m ≠ 1) (h1 : ∀ ps qs, Pair ws rest m ps qs → k (.v (.tup [.lst (iL ps), .lst (iL qs)]))) (h2 : ¬ Reach ws m rest → k (.v .non)) :
    wpF fnT gcT (n+3) 6 [.lst (iL ws), .int rest, .int m] k z := by
  unfold wpF
  simp only [f6, b6, fnT, startE, List.length_cons, List.length_nil, List.map_cons, List.map_nil, List.cons_append, List.nil_append, Nat.sub_self, Nat.reduceSub, Nat.reduceAdd, Nat.reduceLT, List.replicate_zero, List.reduceReplicate, List.replicate_succ, wpSs, wpS, wpE, wpEs, wpT, wpI, wpC, List.getElem?_cons_zero, List.getElem?_cons_succ, List.getElem?_nil, den, dens, back, true_and, and_true, nrmE, nrmT, frzSlots, cutV1, frzT, frzL, eq_ii, eq_bb, eq_ss, eq_nn, D.isNon, o_add, o_adds, o_addl, o_sub, o_addt, n_split, n_find, o_mul, o_rep, o_div, o_mod, o_pow, c_lt, c_le, c_gt, c_ge, c_lts, c_eq, c_ne, c_is, c_isnot, c_in, c_notin, t_bl, t_non, t_int, t_lst, t_tup, x_lst, x_tup, x_scr, x_str, u_lst, u_scr, u_str, b_lenl, b_lent, b_lenc, b_lens, b_abs, b_max2, b_min2, b_int, b_inb, b_tup, b_srtk, i_lst, i_tup, i_scr, is_n, is_b, exists_eq_left', exists_eq_left, exists_eq_right, Option.some.injEq,  partD, setS, setAll, tgD, tgSlots, wipeE, List.set_cons_zero, List.set_cons_succ, List.set_nil, List.take_nil, List.take_zero, m_f, m_t, r_int, r_bl, r_str, r_non, r_tup, r_lstf, r_lstt, r_v, r_newf, r_newt, List.any_cons, List.any_nil, owned, Bool.or_false, Bool.false_or, fl_bl, fl_int, fl_str, fl_non, fl_rs, exists_eq', Ct.lst.injEq, Ct.ob.injEq, D.kst.injEq, List.take_succ_cons, dat_lst, dat_ob, dat_fz, Option.some.injEq, SV.d.injEq, D.int.injEq, forall_eq', reduceCtorEq, false_implies, forall_const, Bool.false_eq_true, List.set, if_true, if_false, Bool.not_true, Bool.not_false]
  refine s_first (by omega) hm2 hL hl (fun ps l1 b1 g1 => ?_) (fun nr => ?_)
  · simp only [fnT, startE, List.length_cons, List.length_nil, List.map_cons, List.map_nil, List.cons_append, List.nil_append, Nat.sub_self, Nat.reduceSub, Nat.reduceAdd, Nat.reduceLT, List.replicate_zero, List.reduceReplicate, List.replicate_succ, wpSs, wpS, wpE, wpEs, wpT, wpI, wpC, List.getElem?_cons_zero, List.getElem?_cons_succ, List.getElem?_nil, den, dens, back, true_and, and_true, nrmE, nrmT, frzSlots, cutV1, frzT, frzL, eq_ii, eq_bb, eq_ss, eq_nn, D.isNon, o_add, o_adds, o_addl, o_sub, o_addt, n_split, n_find, o_mul, o_rep, o_div, o_mod, o_pow, c_lt, c_le, c_gt, c_ge, c_lts, c_eq, c_ne, c_is, c_isnot, c_in, c_notin, t_bl, t_non, t_int, t_lst, t_tup, x_lst, x_tup, x_scr, x_str, u_lst, u_scr, u_str, b_lenl, b_lent, b_lenc, b_lens, b_abs, b_max2, b_min2, b_int, b_inb, b_tup, b_srtk, i_lst, i_tup, i_scr, is_n, is_b, exists_eq_left', exists_eq_left, exists_eq_right, Option.some.injEq,  partD, setS, setAll, tgD, tgSlots, wipeE, List.set_cons_zero, List.set_cons_succ, List.set_nil, List.take_nil, List.take_zero, m_f, m_t, r_int, r_bl, r_str, r_non, r_tup, r_lstf, r_lstt, r_v, r_newf, r_newt, List.any_cons, List.any_nil, owned, Bool.or_false, Bool.false_or, fl_bl, fl_int, fl_str, fl_non, fl_rs, exists_eq', Ct.lst.injEq, Ct.ob.injEq, D.kst.injEq, List.take_succ_cons, dat_lst, dat_ob, dat_fz, Option.some.injEq, SV.d.injEq, D.int.injEq, forall_eq', reduceCtorEq, false_implies, forall_const, Bool.false_eq_true, List.set, if_true, if_false, Bool.not_true, Bool.not_false]
    refine ⟨fun i e l => l = [] ∧ (∃ x4 x5 x6, e = [some (.d (.lst (iL ws))), some (.d (.int rest)), some (.d (.int m)), some (.d (.lst (iL ps))), x4, x5, x6]) ∧ ∀ j w, j < i → ws[j]? = some w → Int.gcd w m = 1, ⟨rfl, ⟨none, none, none, rfl⟩, fun j w hj => by omega⟩, ?_, ?_⟩
    · rintro i x e l hx ⟨rfl, ⟨x4, x5, x6, rfl⟩, ih⟩
      obtain ⟨w, hw, rfl⟩ := enu_it hx
      have wb := hL w (List.mem_of_getElem? hw)
      have hi := (List.getElem?_eq_some_iff.mp hw).1
      have hp : ps[i]? = some ps[i] := List.getElem?_eq_getElem (by omega)
      generalize ps[i]'(by omega) = p at hp
      have a1 : atI (iL ps) (i : Int) = some (.int p) := by rw [atI_ints, getl hp]; rfl
      simp only [b6_0, fnT, startE, List.length_cons, List.length_nil, List.map_cons, List.map_nil, List.cons_append, List.nil_append, Nat.sub_self, Nat.reduceSub, Nat.reduceAdd, Nat.reduceLT, List.replicate_zero, List.reduceReplicate, List.replicate_succ, wpSs, wpS, wpE, wpEs, wpT, wpI, wpC, List.getElem?_cons_zero, List.getElem?_cons_succ, List.getElem?_nil, den, dens, back, true_and, and_true, nrmE, nrmT, frzSlots, cutV1, frzT, frzL, eq_ii, eq_bb, eq_ss, eq_nn, D.isNon, o_add, o_adds, o_addl, o_sub, o_addt, n_split, n_find, o_mul, o_rep, o_div, o_mod, o_pow, c_lt, c_le, c_gt, c_ge, c_lts, c_eq, c_ne, c_is, c_isnot, c_in, c_notin, t_bl, t_non, t_int, t_lst, t_tup, x_lst, x_tup, x_scr, x_str, u_lst, u_scr, u_str, b_lenl, b_lent, b_lenc, b_lens, b_abs, b_max2, b_min2, b_int, b_inb, b_tup, b_srtk, i_lst, i_tup, i_scr, is_n, is_b, exists_eq_left', exists_eq_left, exists_eq_right, Option.some.injEq,  partD, setS, setAll, tgD, tgSlots, wipeE, List.set_cons_zero, List.set_cons_succ, List.set_nil, List.take_nil, List.take_zero, m_f, m_t, r_int, r_bl, r_str, r_non, r_tup, r_lstf, r_lstt, r_v, r_newf, r_newt, List.any_cons, List.any_nil, owned, Bool.or_false, Bool.false_or, fl_bl, fl_int, fl_str, fl_non, fl_rs, exists_eq', Ct.lst.injEq, Ct.ob.injEq, D.kst.injEq, List.take_succ_cons, dat_lst, dat_ob, dat_fz, Option.some.injEq, SV.d.injEq, D.int.injEq, forall_eq', reduceCtorEq, false_implies, forall_const, Bool.false_eq_true, List.set, if_true, if_false, Bool.not_true, Bool.not_false]
      refine s_shared hm hm2 (by omega) (by omega) (fun part q1 q2 q3 => ?_) (fun no => ?_)
      · simp only [a1, fnT, startE, List.length_cons, List.length_nil, List.map_cons, List.map_nil, List.cons_append, List.nil_append, Nat.sub_self, Nat.reduceSub, Nat.reduceAdd, Nat.reduceLT, List.replicate_zero, List.reduceReplicate, List.replicate_succ, wpSs, wpS, wpE, wpEs, wpT, wpI, wpC, List.getElem?_cons_zero, List.getElem?_cons_succ, List.getElem?_nil, den, dens, back, true_and, and_true, nrmE, nrmT, frzSlots, cutV1, frzT, frzL, eq_ii, eq_bb, eq_ss, eq_nn, D.isNon, o_add, o_adds, o_addl, o_sub, o_addt, n_split, n_find, o_mul, o_rep, o_div, o_mod, o_pow, c_lt, c_le, c_gt, c_ge, c_lts, c_eq, c_ne, c_is, c_isnot, c_in, c_notin, t_bl, t_non, t_int, t_lst, t_tup, x_lst, x_tup, x_scr, x_str, u_lst, u_scr, u_str, b_lenl, b_lent, b_lenc, b_lens, b_abs, b_max2, b_min2, b_int, b_inb, b_tup, b_srtk, i_lst, i_tup, i_scr, is_n, is_b, exists_eq_left', exists_eq_left, exists_eq_right, Option.some.injEq,  partD, setS, setAll, tgD, tgSlots, wipeE, List.set_cons_zero, List.set_cons_succ, List.set_nil, List.take_nil, List.take_zero, m_f, m_t, r_int, r_bl, r_str, r_non, r_tup, r_lstf, r_lstt, r_v, r_newf, r_newt, List.any_cons, List.any_nil, owned, Bool.or_false, Bool.false_or, fl_bl, fl_int, fl_str, fl_non, fl_rs, exists_eq', Ct.lst.injEq, Ct.ob.injEq, D.kst.injEq, List.take_succ_cons, dat_lst, dat_ob, dat_fz, Option.some.injEq, SV.d.injEq, D.int.injEq, forall_eq', reduceCtorEq, false_implies, forall_const, Bool.false_eq_true, List.set, if_true, if_false, Bool.not_true, Bool.not_false]
        refine ⟨fun _ => ⟨by omega, sizeLine_big (by decide), ?_⟩, fun q => by simp at q; omega⟩
        have e1 : ((i : Int) + 1) = ((i + 1 : Nat) : Int) := by omega
        rw [e1, cut_take, cut_drop]
        refine ⟨sizeLine_big (by simp; omega), sizeLine_big (by simp; omega), sizeLine_big (by decide), ?_⟩
        have e2 : List.take i (List.map D.int ps) ++ [D.int ((p + part) % m)] ++ List.drop (i + 1) (List.map D.int ps) = iL (ps.set i ((p + part) % m)) := by
          rw [set_form (by simp; omega), iL, List.map_set]
        rw [e2]
        exact h1 _ _ (pair_ex (by omega) l1 b1 g1 hw hp q1 q2 q3)
      · have g : Int.gcd w m = 1 := by
          by_cases g : Int.gcd w m = 1
          · exact g
          · obtain ⟨part, p1, p2, p3⟩ := part_of (by omega) g hm
            exact absurd p3 (no part p1 p2)
        simp only [fnT, startE, List.length_cons, List.length_nil, List.map_cons, List.map_nil, List.cons_append, List.nil_append, Nat.sub_self, Nat.reduceSub, Nat.reduceAdd, Nat.reduceLT, List.replicate_zero, List.reduceReplicate, List.replicate_succ, wpSs, wpS, wpE, wpEs, wpT, wpI, wpC, List.getElem?_cons_zero, List.getElem?_cons_succ, List.getElem?_nil, den, dens, back, true_and, and_true, nrmE, nrmT, frzSlots, cutV1, frzT, frzL, eq_ii, eq_bb, eq_ss, eq_nn, D.isNon, o_add, o_adds, o_addl, o_sub, o_addt, n_split, n_find, o_mul, o_rep, o_div, o_mod, o_pow, c_lt, c_le, c_gt, c_ge, c_lts, c_eq, c_ne, c_is, c_isnot, c_in, c_notin, t_bl, t_non, t_int, t_lst, t_tup, x_lst, x_tup, x_scr, x_str, u_lst, u_scr, u_str, b_lenl, b_lent, b_lenc, b_lens, b_abs, b_max2, b_min2, b_int, b_inb, b_tup, b_srtk, i_lst, i_tup, i_scr, is_n, is_b, exists_eq_left', exists_eq_left, exists_eq_right, Option.some.injEq,  partD, setS, setAll, tgD, tgSlots, wipeE, List.set_cons_zero, List.set_cons_succ, List.set_nil, List.take_nil, List.take_zero, m_f, m_t, r_int, r_bl, r_str, r_non, r_tup, r_lstf, r_lstt, r_v, r_newf, r_newt, List.any_cons, List.any_nil, owned, Bool.or_false, Bool.false_or, fl_bl, fl_int, fl_str, fl_non, fl_rs, exists_eq', Ct.lst.injEq, Ct.ob.injEq, D.kst.injEq, List.take_succ_cons, dat_lst, dat_ob, dat_fz, Option.some.injEq, SV.d.injEq, D.int.injEq, forall_eq', reduceCtorEq, false_implies, forall_const, Bool.false_eq_true, List.set, if_true, if_false, Bool.not_true, Bool.not_false]
        refine ⟨fun q => by simp at q, fun _ => ⟨⟨_, _, _, rfl⟩, fun j w' hj hw' => ?_⟩⟩
        by_cases q : j = i
        · subst q; rw [hw] at hw'; cases hw'; exact g
        · exact ih j w' (by omega) hw'
    · rintro e l ⟨rfl, ⟨x4, x5, x6, rfl⟩, ih⟩
      exfalso
      obtain ⟨w, hw, g⟩ := hs
      obtain ⟨j, hj⟩ := List.getElem?_of_mem hw
      have hj2 := (List.getElem?_eq_some_iff.mp hj).1
      exact g (ih j w (by simpa using hj2) hj)
  · simp only [fnT, startE, List.length_cons, List.length_nil, List.map_cons, List.map_nil, List.cons_append, List.nil_append, Nat.sub_self, Nat.reduceSub, Nat.reduceAdd, Nat.reduceLT, List.replicate_zero, List.reduceReplicate, List.replicate_succ, wpSs, wpS, wpE, wpEs, wpT, wpI, wpC, List.getElem?_cons_zero, List.getElem?_cons_succ, List.getElem?_nil, den, dens, back, true_and, and_true, nrmE, nrmT, frzSlots, cutV1, frzT, frzL, eq_ii, eq_bb, eq_ss, eq_nn, D.isNon, o_add, o_adds, o_addl, o_sub, o_addt, n_split, n_find, o_mul, o_rep, o_div, o_mod, o_pow, c_lt, c_le, c_gt, c_ge, c_lts, c_eq, c_ne, c_is, c_isnot, c_in, c_notin, t_bl, t_non, t_int, t_lst, t_tup, x_lst, x_tup, x_scr, x_str, u_lst, u_scr, u_str, b_lenl, b_lent, b_lenc, b_lens, b_abs, b_max2, b_min2, b_int, b_inb, b_tup, b_srtk, i_lst, i_tup, i_scr, is_n, is_b, exists_eq_left', exists_eq_left, exists_eq_right, Option.some.injEq,  partD, setS, setAll, tgD, tgSlots, wipeE, List.set_cons_zero, List.set_cons_succ, List.set_nil, List.take_nil, List.take_zero, m_f, m_t, r_int, r_bl, r_str, r_non, r_tup, r_lstf, r_lstt, r_v, r_newf, r_newt, List.any_cons, List.any_nil, owned, Bool.or_false, Bool.false_or, fl_bl, fl_int, fl_str, fl_non, fl_rs, exists_eq', Ct.lst.injEq, Ct.ob.injEq, D.kst.injEq, List.take_succ_cons, dat_lst, dat_ob, dat_fz, Option.some.injEq, SV.d.injEq, D.int.injEq, forall_eq', reduceCtorEq, false_implies, forall_const, Bool.false_eq_true, List.set, if_true, if_false, Bool.not_true, Bool.not_false]
    refine ⟨fun i e l => l = [] ∧ (∃ x4 x5 x6, e = [some (.d (.lst (iL ws))), some (.d (.int rest)), some (.d (.int m)), some (.d .non), x4, x5, x6]), ⟨rfl, ⟨none, none, none, rfl⟩⟩, ?_, ?_⟩
    · rintro i x e l hx ⟨rfl, ⟨x4, x5, x6, rfl⟩⟩
      obtain ⟨w, hw, rfl⟩ := enu_it hx
      have wb := hL w (List.mem_of_getElem? hw)
      simp only [b6_0, fnT, startE, List.length_cons, List.length_nil, List.map_cons, List.map_nil, List.cons_append, List.nil_append, Nat.sub_self, Nat.reduceSub, Nat.reduceAdd, Nat.reduceLT, List.replicate_zero, List.reduceReplicate, List.replicate_succ, wpSs, wpS, wpE, wpEs, wpT, wpI, wpC, List.getElem?_cons_zero, List.getElem?_cons_succ, List.getElem?_nil, den, dens, back, true_and, and_true, nrmE, nrmT, frzSlots, cutV1, frzT, frzL, eq_ii, eq_bb, eq_ss, eq_nn, D.isNon, o_add, o_adds, o_addl, o_sub, o_addt, n_split, n_find, o_mul, o_rep, o_div, o_mod, o_pow, c_lt, c_le, c_gt, c_ge, c_lts, c_eq, c_ne, c_is, c_isnot, c_in, c_notin, t_bl, t_non, t_int, t_lst, t_tup, x_lst, x_tup, x_scr, x_str, u_lst, u_scr, u_str, b_lenl, b_lent, b_lenc, b_lens, b_abs, b_max2, b_min2, b_int, b_inb, b_tup, b_srtk, i_lst, i_tup, i_scr, is_n, is_b, exists_eq_left', exists_eq_left, exists_eq_right, Option.some.injEq,  partD, setS, setAll, tgD, tgSlots, wipeE, List.set_cons_zero, List.set_cons_succ, List.set_nil, List.take_nil, List.take_zero, m_f, m_t, r_int, r_bl, r_str, r_non, r_tup, r_lstf, r_lstt, r_v, r_newf, r_newt, List.any_cons, List.any_nil, owned, Bool.or_false, Bool.false_or, fl_bl, fl_int, fl_str, fl_non, fl_rs, exists_eq', Ct.lst.injEq, Ct.ob.injEq, D.kst.injEq, List.take_succ_cons, dat_lst, dat_ob, dat_fz, Option.some.injEq, SV.d.injEq, D.int.injEq, forall_eq', reduceCtorEq, false_implies, forall_const, Bool.false_eq_true, List.set, if_true, if_false, Bool.not_true, Bool.not_false]
      refine s_shared hm hm2 (by omega) (by omega) (fun part q1 q2 q3 => ?_) (fun no => ?_)
      · simp only [fnT, startE, List.length_cons, List.length_nil, List.map_cons, List.map_nil, List.cons_append, List.nil_append, Nat.sub_self, Nat.reduceSub, Nat.reduceAdd, Nat.reduceLT, List.replicate_zero, List.reduceReplicate, List.replicate_succ, wpSs, wpS, wpE, wpEs, wpT, wpI, wpC, List.getElem?_cons_zero, List.getElem?_cons_succ, List.getElem?_nil, den, dens, back, true_and, and_true, nrmE, nrmT, frzSlots, cutV1, frzT, frzL, eq_ii, eq_bb, eq_ss, eq_nn, D.isNon, o_add, o_adds, o_addl, o_sub, o_addt, n_split, n_find, o_mul, o_rep, o_div, o_mod, o_pow, c_lt, c_le, c_gt, c_ge, c_lts, c_eq, c_ne, c_is, c_isnot, c_in, c_notin, t_bl, t_non, t_int, t_lst, t_tup, x_lst, x_tup, x_scr, x_str, u_lst, u_scr, u_str, b_lenl, b_lent, b_lenc, b_lens, b_abs, b_max2, b_min2, b_int, b_inb, b_tup, b_srtk, i_lst, i_tup, i_scr, is_n, is_b, exists_eq_left', exists_eq_left, exists_eq_right, Option.some.injEq,  partD, setS, setAll, tgD, tgSlots, wipeE, List.set_cons_zero, List.set_cons_succ, List.set_nil, List.take_nil, List.take_zero, m_f, m_t, r_int, r_bl, r_str, r_non, r_tup, r_lstf, r_lstt, r_v, r_newf, r_newt, List.any_cons, List.any_nil, owned, Bool.or_false, Bool.false_or, fl_bl, fl_int, fl_str, fl_non, fl_rs, exists_eq', Ct.lst.injEq, Ct.ob.injEq, D.kst.injEq, List.take_succ_cons, dat_lst, dat_ob, dat_fz, Option.some.injEq, SV.d.injEq, D.int.injEq, forall_eq', reduceCtorEq, false_implies, forall_const, Bool.false_eq_true, List.set, if_true, if_false, Bool.not_true, Bool.not_false]
        exact ⟨fun _ => ⟨_, _, _, rfl⟩, fun _ => ⟨_, _, _, rfl⟩⟩
      · simp only [fnT, startE, List.length_cons, List.length_nil, List.map_cons, List.map_nil, List.cons_append, List.nil_append, Nat.sub_self, Nat.reduceSub, Nat.reduceAdd, Nat.reduceLT, List.replicate_zero, List.reduceReplicate, List.replicate_succ, wpSs, wpS, wpE, wpEs, wpT, wpI, wpC, List.getElem?_cons_zero, List.getElem?_cons_succ, List.getElem?_nil, den, dens, back, true_and, and_true, nrmE, nrmT, frzSlots, cutV1, frzT, frzL, eq_ii, eq_bb, eq_ss, eq_nn, D.isNon, o_add, o_adds, o_addl, o_sub, o_addt, n_split, n_find, o_mul, o_rep, o_div, o_mod, o_pow, c_lt, c_le, c_gt, c_ge, c_lts, c_eq, c_ne, c_is, c_isnot, c_in, c_notin, t_bl, t_non, t_int, t_lst, t_tup, x_lst, x_tup, x_scr, x_str, u_lst, u_scr, u_str, b_lenl, b_lent, b_lenc, b_lens, b_abs, b_max2, b_min2, b_int, b_inb, b_tup, b_srtk, i_lst, i_tup, i_scr, is_n, is_b, exists_eq_left', exists_eq_left, exists_eq_right, Option.some.injEq,  partD, setS, setAll, tgD, tgSlots, wipeE, List.set_cons_zero, List.set_cons_succ, List.set_nil, List.take_nil, List.take_zero, m_f, m_t, r_int, r_bl, r_str, r_non, r_tup, r_lstf, r_lstt, r_v, r_newf, r_newt, List.any_cons, List.any_nil, owned, Bool.or_false, Bool.false_or, fl_bl, fl_int, fl_str, fl_non, fl_rs, exists_eq', Ct.lst.injEq, Ct.ob.injEq, D.kst.injEq, List.take_succ_cons, dat_lst, dat_ob, dat_fz, Option.some.injEq, SV.d.injEq, D.int.injEq, forall_eq', reduceCtorEq, false_implies, forall_const, Bool.false_eq_true, List.set, if_true, if_false, Bool.not_true, Bool.not_false]
        exact ⟨fun _ => ⟨_, _, _, rfl⟩, fun _ => ⟨_, _, _, rfl⟩⟩
    · rintro e l ⟨rfl, ⟨x4, x5, x6, rfl⟩⟩
      exact h2 nr
theorem zeros {ws : List Int} : ∀ j : Nat, dot ws (List.replicate j 0) = 0 := by
  induction ws with
  | nil => intro j; exact dot_nil
  | cons a t ih =>
    intro j
    cases j with
    | zero => unfold dot; simp
    | succ j => rw [List.replicate_succ, dot_cons, ih]; simp
noncomputable def fil2 (w a m : Int) (j : Nat) : List Int := ((List.range j).map fun (i : Nat) => (i : Int)).filter fun p => decide ((w * p + a) % m = 0)
theorem fil2_succ {w a m : Int} {j : Nat} : fil2 w a m (j + 1) = fil2 w a m j ++ (if (w * (j : Int) + a) % m = 0 then [(j : Int)] else []) := by
  unfold fil2
  rw [List.range_succ, List.map_append, List.filter_append]
  simp [List.filter_cons]
theorem fil2_mem {w a m p : Int} {j : Nat} : p ∈ fil2 w a m j ↔ (0 ≤ p ∧ p < j) ∧ (w * p + a) % m = 0 := by
  unfold fil2
  rw [List.mem_filter, decide_eq_true_iff]
  constructor
  · rintro ⟨h, h2⟩
    simp at h
    obtain ⟨b, hb, rfl⟩ := h
    exact ⟨by omega, h2⟩
  · rintro ⟨h, h2⟩
    refine ⟨?_, h2⟩
    simp
    exact ⟨p.toNat, by omega, by omega⟩
theorem fil2_len {w a m : Int} {j : Nat} : (fil2 w a m j).length ≤ j := by
  unfold fil2
  exact Nat.le_trans (List.length_filter_le _ _) (by simp)
theorem fil2_some {w a m : Int} (hm : 0 < m) (g : Int.gcd w m = 1) : ∃ p tl, fil2 w a m m.toNat = p :: tl ∧ 0 ≤ p ∧ p < m ∧ (w * p + a) % m = 0 := by
  have h : ((gl [w] m : Nat) : Int) ∣ (-a) := by
    have e : gl [w] m = 1 := by
      show Int.gcd w ((m.natAbs : Nat) : Int) = 1
      rw [show ((m.natAbs : Nat) : Int) = m by omega]; exact g
    rw [e]; exact Int.one_dvd _
  obtain ⟨ps, l1, l2, l3⟩ := gl_reach hm h
  obtain ⟨p0, rfl⟩ : ∃ p, ps = [p] := List.length_eq_one_iff.mp l1
  rw [dot_cons, dot_nil, show w * p0 + 0 - -a = w * p0 + a by omega] at l3
  have b := l2 p0 (by simp)
  have inn : p0 ∈ fil2 w a m m.toNat := fil2_mem.mpr ⟨⟨b.1, by omega⟩, l3⟩
  cases q : fil2 w a m m.toNat with
  | nil => rw [q] at inn; simp at inn
  | cons p tl =>
    have hp := fil2_mem.mp (show p ∈ fil2 w a m m.toNat by rw [q]; simp)
    exact ⟨p, tl, rfl, hp.1.1, by omega, hp.2⟩
theorem swap_form {α : Type} {xs : List α} {k : Nat} {a b : α} (hk : k + 1 < xs.length) : xs.take k ++ [a, b] ++ xs.drop (k + 2) = (xs.set k a).set (k + 1) b := by
  apply List.ext_getElem?
  intro j
  by_cases h1 : j < k
  · rw [List.getElem?_set_ne (by omega), List.getElem?_set_ne (by omega), List.append_assoc, List.getElem?_append_left (by rw [List.length_take]; omega), List.getElem?_take_of_lt h1]
  · by_cases h2 : j = k
    · subst h2
      rw [List.getElem?_set_ne (by omega), List.getElem?_set_self (by omega), List.append_assoc, List.getElem?_append_right (by rw [List.length_take]; omega), List.length_take, Nat.min_eq_left (by omega), Nat.sub_self]
      rfl
    · by_cases h3 : j = k + 1
      · subst h3
        rw [List.getElem?_set_self (by rw [List.length_set]; omega), List.append_assoc, List.getElem?_append_right (by rw [List.length_take]; omega), List.length_take, Nat.min_eq_left (by omega), show k + 1 - k = 1 by omega]
        rfl
      · rw [List.getElem?_set_ne (by omega), List.getElem?_set_ne (by omega), List.getElem?_append_right (by simp; omega), List.getElem?_drop]
        congr 1
        simp
        omega
theorem pair_sw {ws : List Int} {rest m w w' part p : Int} {k o : Nat} (hm : 0 < m) (hk : k + 1 < ws.length) (ho : o < ws.length) (hok : o ≠ k) (hok1 : o ≠ k + 1) (hw : ws[k]? = some w) (hw' : ws[k + 1]? = some w') (h1 : 1 ≤ part) (h2 : part < m) (h3 : (w - w') * part % m = 0)
    {wo : Int} (hwo : ws[o]? = some wo) (p0 : 0 ≤ p) (p1 : p < m) (hp : (wo * p + (w * part - rest)) % m = 0) :
    Pair ws rest m (((List.replicate ws.length 0).set k part).set o p) (((((List.replicate ws.length 0).set k part).set o p).set k 0).set (k + 1) part) := by
  have z : ∀ j, j < ws.length → (List.replicate ws.length (0 : Int))[j]? = some 0 := fun j hj => by rw [List.getElem?_replicate, if_pos hj]
  have lz : Lt (List.replicate ws.length (0 : Int)) m := fun y hy => by rw [(List.mem_replicate.mp hy).2]; omega
  have e1 : dot ws (((List.replicate ws.length 0).set k part).set o p) = w * part + wo * p := by
    rw [dot_set hwo (p := 0) (by rw [List.getElem?_set_ne (Ne.symm hok)]; exact z o ho), dot_set hw (z k (by omega)), zeros]
    rw [Int.sub_zero, Int.sub_zero]
    omega
  generalize hps : ((List.replicate ws.length (0 : Int)).set k part).set o p = ps at *
  have lp : ps.length = ws.length := by rw [← hps]; simp
  have ek : ps[k]? = some part := by
    rw [← hps, List.getElem?_set_ne hok, List.getElem?_set_self (by simp; omega)]
  have ek1 : ps[k + 1]? = some 0 := by
    rw [← hps, List.getElem?_set_ne hok1, List.getElem?_set_ne (by omega)]
    exact z _ hk
  have bp : Lt ps m := by rw [← hps]; exact (lz.set (by omega) h2).set p0 p1
  refine ⟨lp, by simp [lp], bp, (bp.set (by omega) hm).set (by omega) h2, ?_, ?_, .inr ⟨k, hk, fun j => ?_, ?_, ?_⟩⟩
  · rw [e1, show w * part + wo * p - rest = wo * p + (w * part - rest) by omega]
    exact hp
  · rw [dot_set hw' (p := 0) (by rw [List.getElem?_set_ne (by omega)]; exact ek1), dot_set hw ek, e1]
    have e2 : w * part + wo * p + w * (0 - part) + w' * (part - 0) - rest = (wo * p + (w * part - rest)) - (w - w') * part := by
      rw [Int.sub_mul, Int.mul_sub, Int.sub_zero, Int.mul_zero]
      omega
    rw [e2, Int.sub_emod, hp, h3]
    simp
  · by_cases q1 : j = k
    · subst q1
      rw [List.getElem?_set_ne (by omega), List.getElem?_set_self (by omega), ek]
      simp
      omega
    · by_cases q2 : j = k + 1
      · subst q2
        rw [List.getElem?_set_self (by simp; omega), ek1]
        simp
        omega
      · rw [List.getElem?_set_ne (by omega), List.getElem?_set_ne (by omega)]
        simp [q1, q2]
  · rw [List.getElem?_set_self (by simp; omega), ek]
  · rw [List.getElem?_set_ne (by omega), List.getElem?_set_self (by omega), ek1]
end K03

namespace K03
open PySem L2 PD
theorem s_swapped {n : Nat} {ws : List Int} {rest m : Int} {k z} (hm : 1 < m) (hm2 : m ≤ 26) (hL : Lt ws m) (hl : ws.length ≤ 1000) (h3 : 3 ≤ ws.length) (hc : ∀ w ∈ ws, Int.gcd w m = 1)
    (hs : ∃ (j : Nat) (w w' : Int), ws[j]? = some w ∧ ws[j + 1]? = some w' ∧ Int.gcd (w - w') m ≠ 1) (h1 : ∀ ps qs, Pair ws rest m ps qs → k (.v (.tup [.lst (iL ps), .lst (iL qs)]))) :
    wpF fnT gcT (n+2) 7 [.lst (iL ws), .int rest, .int m] k z := by
  unfold wpF
  simp only [f7, b7, len_ints, fnT, startE, List.length_cons, List.length_nil, List.map_cons, List.map_nil, List.cons_append, List.nil_append, Nat.sub_self, Nat.reduceSub, Nat.reduceAdd, Nat.reduceLT, List.replicate_zero, List.reduceReplicate, List.replicate_succ, wpSs, wpS, wpE, wpEs, wpT, wpI, wpC, List.getElem?_cons_zero, List.getElem?_cons_succ, List.getElem?_nil, den, dens, back, true_and, and_true, nrmE, nrmT, frzSlots, cutV1, frzT, frzL, eq_ii, eq_bb, eq_ss, eq_nn, D.isNon, o_add, o_adds, o_addl, o_sub, o_addt, n_split, n_find, o_mul, o_rep, o_div, o_mod, o_pow, c_lt, c_le, c_gt, c_ge, c_lts, c_eq, c_ne, c_is, c_isnot, c_in, c_notin, t_bl, t_non, t_int, t_lst, t_tup, x_lst, x_tup, x_scr, x_str, u_lst, u_scr, u_str, b_lenl, b_lent, b_lenc, b_lens, b_abs, b_max2, b_min2, b_int, b_inb, b_tup, b_srtk, i_lst, i_tup, i_scr, is_n, is_b, exists_eq_left', exists_eq_left, exists_eq_right, Option.some.injEq,  partD, setS, setAll, tgD, tgSlots, wipeE, List.set_cons_zero, List.set_cons_succ, List.set_nil, List.take_nil, List.take_zero, m_f, m_t, r_int, r_bl, r_str, r_non, r_tup, r_lstf, r_lstt, r_v, r_newf, r_newt, List.any_cons, List.any_nil, owned, Bool.or_false, Bool.false_or, fl_bl, fl_int, fl_str, fl_non, fl_rs, exists_eq', Ct.lst.injEq, Ct.ob.injEq, D.kst.injEq, List.take_succ_cons, dat_lst, dat_ob, dat_fz, Option.some.injEq, SV.d.injEq, D.int.injEq, forall_eq', reduceCtorEq, false_implies, forall_const, Bool.false_eq_true, List.set, if_true, if_false, Bool.not_true, Bool.not_false]
  refine ⟨by omega, by omega, fun i e l => l = [] ∧ (∃ (x3 x4 : Option SV) (d5 : Option D) (x6 x7 : Option SV), e = [some (.d (.lst (iL ws))), some (.d (.int rest)), some (.d (.int m)), x3, x4, d5.map SV.d, x6, x7]) ∧ ∀ j w w', j < i → ws[j]? = some w → ws[j + 1]? = some w' → Int.gcd (w - w') m = 1, ⟨rfl, ⟨none, none, none, none, none, rfl⟩, fun j w w' hj => by omega⟩, ?_, ?_⟩
  · rintro i x e l hx ⟨rfl, ⟨x3, x4, d5, x6, x7, rfl⟩, ih⟩
    obtain ⟨hi, rfl⟩ := rng_it hx
    have hi2 : i + 1 < ws.length := by omega
    have hw : ws[i]? = some ws[i] := List.getElem?_eq_getElem (by omega)
    have hw' : ws[i + 1]? = some ws[i + 1] := List.getElem?_eq_getElem hi2
    generalize ws[i]'(by omega) = w at hw
    generalize ws[i + 1]'(by omega) = w' at hw'
    have wb := hL w (List.mem_of_getElem? hw)
    have wb' := hL w' (List.mem_of_getElem? hw')
    have a1 : atI (iL ws) (i : Int) = some (.int w) := by rw [atI_ints, getl hw]; rfl
    have a2 : atI (iL ws) ((i : Int) + 1) = some (.int w') := by rw [show ((i : Int) + 1) = ((i + 1 : Nat) : Int) by omega, atI_ints, getl hw']; rfl
    simp only [b7_3, a1, a2, fnT, startE, List.length_cons, List.length_nil, List.map_cons, List.map_nil, List.cons_append, List.nil_append, Nat.sub_self, Nat.reduceSub, Nat.reduceAdd, Nat.reduceLT, List.replicate_zero, List.reduceReplicate, List.replicate_succ, wpSs, wpS, wpE, wpEs, wpT, wpI, wpC, List.getElem?_cons_zero, List.getElem?_cons_succ, List.getElem?_nil, den, dens, back, true_and, and_true, nrmE, nrmT, frzSlots, cutV1, frzT, frzL, eq_ii, eq_bb, eq_ss, eq_nn, D.isNon, o_add, o_adds, o_addl, o_sub, o_addt, n_split, n_find, o_mul, o_rep, o_div, o_mod, o_pow, c_lt, c_le, c_gt, c_ge, c_lts, c_eq, c_ne, c_is, c_isnot, c_in, c_notin, t_bl, t_non, t_int, t_lst, t_tup, x_lst, x_tup, x_scr, x_str, u_lst, u_scr, u_str, b_lenl, b_lent, b_lenc, b_lens, b_abs, b_max2, b_min2, b_int, b_inb, b_tup, b_srtk, i_lst, i_tup, i_scr, is_n, is_b, exists_eq_left', exists_eq_left, exists_eq_right, Option.some.injEq,  partD, setS, setAll, tgD, tgSlots, wipeE, List.set_cons_zero, List.set_cons_succ, List.set_nil, List.take_nil, List.take_zero, m_f, m_t, r_int, r_bl, r_str, r_non, r_tup, r_lstf, r_lstt, r_v, r_newf, r_newt, List.any_cons, List.any_nil, owned, Bool.or_false, Bool.false_or, fl_bl, fl_int, fl_str, fl_non, fl_rs, exists_eq', Ct.lst.injEq, Ct.ob.injEq, D.kst.injEq, List.take_succ_cons, dat_lst, dat_ob, dat_fz, Option.some.injEq, SV.d.injEq, D.int.injEq, forall_eq', reduceCtorEq, false_implies, forall_const, Bool.false_eq_true, List.set, if_true, if_false, Bool.not_true, Bool.not_false]
    refine s_shared hm hm2 (by omega) (by omega) (fun part q1 q2 q3 => ?_) (fun no => ?_)
    · simp only [fnT, startE, List.length_cons, List.length_nil, List.map_cons, List.map_nil, List.cons_append, List.nil_append, Nat.sub_self, Nat.reduceSub, Nat.reduceAdd, Nat.reduceLT, List.replicate_zero, List.reduceReplicate, List.replicate_succ, wpSs, wpS, wpE, wpEs, wpT, wpI, wpC, List.getElem?_cons_zero, List.getElem?_cons_succ, List.getElem?_nil, den, dens, back, true_and, and_true, nrmE, nrmT, frzSlots, cutV1, frzT, frzL, eq_ii, eq_bb, eq_ss, eq_nn, D.isNon, o_add, o_adds, o_addl, o_sub, o_addt, n_split, n_find, o_mul, o_rep, o_div, o_mod, o_pow, c_lt, c_le, c_gt, c_ge, c_lts, c_eq, c_ne, c_is, c_isnot, c_in, c_notin, t_bl, t_non, t_int, t_lst, t_tup, x_lst, x_tup, x_scr, x_str, u_lst, u_scr, u_str, b_lenl, b_lent, b_lenc, b_lens, b_abs, b_max2, b_min2, b_int, b_inb, b_tup, b_srtk, i_lst, i_tup, i_scr, is_n, is_b, exists_eq_left', exists_eq_left, exists_eq_right, Option.some.injEq,  partD, setS, setAll, tgD, tgSlots, wipeE, List.set_cons_zero, List.set_cons_succ, List.set_nil, List.take_nil, List.take_zero, m_f, m_t, r_int, r_bl, r_str, r_non, r_tup, r_lstf, r_lstt, r_v, r_newf, r_newt, List.any_cons, List.any_nil, owned, Bool.or_false, Bool.false_or, fl_bl, fl_int, fl_str, fl_non, fl_rs, exists_eq', Ct.lst.injEq, Ct.ob.injEq, D.kst.injEq, List.take_succ_cons, dat_lst, dat_ob, dat_fz, Option.some.injEq, SV.d.injEq, D.int.injEq, forall_eq', reduceCtorEq, false_implies, forall_const, Bool.false_eq_true, List.set, if_true, if_false, Bool.not_true, Bool.not_false]
      refine ⟨fun _ => ?_, fun q => by simp at q; omega⟩
      let o : Nat := (i + 2) % ws.length
      have ho : o < ws.length := Nat.mod_lt _ (by omega)
      have hoi : ((i : Int) + 2) % (ws.length : Int) = ((o : Nat) : Int) := by
        show ((i : Int) + 2) % (ws.length : Int) = (((i + 2) % ws.length : Nat) : Int)
        rw [Int.natCast_emod]
        rfl
      have hok : o ≠ i ∧ o ≠ i + 1 := by
        show (i + 2) % ws.length ≠ i ∧ (i + 2) % ws.length ≠ i + 1
        by_cases q : i + 2 < ws.length
        · rw [Nat.mod_eq_of_lt q]; omega
        · have : i + 2 = ws.length := by omega
          rw [this, Nat.mod_self]; omega
      have hwo : ws[o]? = some ws[o] := List.getElem?_eq_getElem ho
      generalize ws[o]'(by omega) = wo at hwo
      have wbo := hL wo (List.mem_of_getElem? hwo)
      have a3 : atI (iL ws) ((o : Nat) : Int) = some (.int wo) := by rw [atI_ints, getl hwo]; rfl
      obtain ⟨p, tl, ep, p0, p1, p2⟩ := fil2_some (a := w * part - rest) (by omega) (hc wo (List.mem_of_getElem? hwo))
      have rep : ∀ (v : Int) (j : Nat), (List.replicate j [D.int v]).flatten = iL (List.replicate j v) := fun v j => by
        induction j with
        | zero => rfl
        | succ j ih => rw [List.replicate_succ, List.flatten_cons, ih, List.replicate_succ]; rfl
      have es : ∀ (xs : List Int) (i : Nat) (v : Int), (iL xs).set i (D.int v) = iL (xs.set i v) := fun xs i v => by simp [iL, List.map_set]
      simp only [b7_2, len_ints, hoi, fnT, startE, List.length_cons, List.length_nil, List.map_cons, List.map_nil, List.cons_append, List.nil_append, Nat.sub_self, Nat.reduceSub, Nat.reduceAdd, Nat.reduceLT, List.replicate_zero, List.reduceReplicate, List.replicate_succ, wpSs, wpS, wpE, wpEs, wpT, wpI, wpC, List.getElem?_cons_zero, List.getElem?_cons_succ, List.getElem?_nil, den, dens, back, true_and, and_true, nrmE, nrmT, frzSlots, cutV1, frzT, frzL, eq_ii, eq_bb, eq_ss, eq_nn, D.isNon, o_add, o_adds, o_addl, o_sub, o_addt, n_split, n_find, o_mul, o_rep, o_div, o_mod, o_pow, c_lt, c_le, c_gt, c_ge, c_lts, c_eq, c_ne, c_is, c_isnot, c_in, c_notin, t_bl, t_non, t_int, t_lst, t_tup, x_lst, x_tup, x_scr, x_str, u_lst, u_scr, u_str, b_lenl, b_lent, b_lenc, b_lens, b_abs, b_max2, b_min2, b_int, b_inb, b_tup, b_srtk, i_lst, i_tup, i_scr, is_n, is_b, exists_eq_left', exists_eq_left, exists_eq_right, Option.some.injEq,  partD, setS, setAll, tgD, tgSlots, wipeE, List.set_cons_zero, List.set_cons_succ, List.set_nil, List.take_nil, List.take_zero, m_f, m_t, r_int, r_bl, r_str, r_non, r_tup, r_lstf, r_lstt, r_v, r_newf, r_newt, List.any_cons, List.any_nil, owned, Bool.or_false, Bool.false_or, fl_bl, fl_int, fl_str, fl_non, fl_rs, exists_eq', Ct.lst.injEq, Ct.ob.injEq, D.kst.injEq, List.take_succ_cons, dat_lst, dat_ob, dat_fz, Option.some.injEq, SV.d.injEq, D.int.injEq, forall_eq', reduceCtorEq, false_implies, forall_const, Bool.false_eq_true, List.set, if_true, if_false, Bool.not_true, Bool.not_false]
      refine ⟨sizeLine_big (by decide), by omega, by omega, sizeLine_big (by omega), ?_⟩
      rw [rep, Int.toNat_natCast]
      have hz : (iL (List.replicate ws.length (0 : Int))).length = ws.length := by simp
      refine ⟨_, i, rfl, by rw [hz]; exact setN (by omega) (by omega), by omega, by omega, by omega, ?_⟩
      rw [es]
      refine ⟨fun j acc => acc = iL (fil2 wo (w * part - rest) m j), rfl, ?_, ?_⟩
      · rintro j x acc hx rfl
        obtain ⟨hj, rfl⟩ := rng_it hx
        simp only [b7_0, b7_1, a1, a3, fnT, startE, List.length_cons, List.length_nil, List.map_cons, List.map_nil, List.cons_append, List.nil_append, Nat.sub_self, Nat.reduceSub, Nat.reduceAdd, Nat.reduceLT, List.replicate_zero, List.reduceReplicate, List.replicate_succ, wpSs, wpS, wpE, wpEs, wpT, wpI, wpC, List.getElem?_cons_zero, List.getElem?_cons_succ, List.getElem?_nil, den, dens, back, true_and, and_true, nrmE, nrmT, frzSlots, cutV1, frzT, frzL, eq_ii, eq_bb, eq_ss, eq_nn, D.isNon, o_add, o_adds, o_addl, o_sub, o_addt, n_split, n_find, o_mul, o_rep, o_div, o_mod, o_pow, c_lt, c_le, c_gt, c_ge, c_lts, c_eq, c_ne, c_is, c_isnot, c_in, c_notin, t_bl, t_non, t_int, t_lst, t_tup, x_lst, x_tup, x_scr, x_str, u_lst, u_scr, u_str, b_lenl, b_lent, b_lenc, b_lens, b_abs, b_max2, b_min2, b_int, b_inb, b_tup, b_srtk, i_lst, i_tup, i_scr, is_n, is_b, exists_eq_left', exists_eq_left, exists_eq_right, Option.some.injEq,  partD, setS, setAll, tgD, tgSlots, wipeE, List.set_cons_zero, List.set_cons_succ, List.set_nil, List.take_nil, List.take_zero, m_f, m_t, r_int, r_bl, r_str, r_non, r_tup, r_lstf, r_lstt, r_v, r_newf, r_newt, List.any_cons, List.any_nil, owned, Bool.or_false, Bool.false_or, fl_bl, fl_int, fl_str, fl_non, fl_rs, exists_eq', Ct.lst.injEq, Ct.ob.injEq, D.kst.injEq, List.take_succ_cons, dat_lst, dat_ob, dat_fz, Option.some.injEq, SV.d.injEq, D.int.injEq, forall_eq', reduceCtorEq, false_implies, forall_const, Bool.false_eq_true, List.set, if_true, if_false, Bool.not_true, Bool.not_false]
        have as : wo * (j : Int) + w * part - rest = wo * (j : Int) + (w * part - rest) := by omega
        rw [as]
        refine ⟨mul_of 10 10 (by omega) (by omega) (by decide), mul_of 10 10 (by omega) (by omega) (by decide), by omega, ⟨[], rfl⟩, fun h0 => ?_, fun h0 => ?_⟩
        · have : (wo * (j : Int) + (w * part - rest)) % m = 0 := by simpa using h0
          exact ⟨_, [], rfl, rfl, sizeLine_lt (by rw [len_ints]; have := fil2_len (w := wo) (a := w * part - rest) (m := m) (j := j); omega), by rw [fil2_succ, if_pos this]; simp⟩
        · have : ¬ (wo * (j : Int) + (w * part - rest)) % m = 0 := by simpa using h0
          rw [fil2_succ, if_neg this]; simp
      · rintro acc rfl
        rw [rng_len, ep]
        have hz2 : (iL ((List.replicate ws.length (0 : Int)).set i part)).length = ws.length := by simp
        refine ⟨_, getl (i := 0) rfl, _, o, rfl, by rw [hz2]; exact setN (by omega) (by omega), ?_⟩
        rw [es]
        have P := pair_sw (rest := rest) (by omega) hi2 ho hok.1 hok.2 hw hw' q1 q2 q3 hwo p0 p1 p2
        have ek : (((List.replicate ws.length (0 : Int)).set i part).set o p)[i]? = some part := by
          rw [List.getElem?_set_ne hok.1, List.getElem?_set_self (by simp; omega)]
        have ek1 : (((List.replicate ws.length (0 : Int)).set i part).set o p)[i + 1]? = some 0 := by
          rw [List.getElem?_set_ne hok.2, List.getElem?_set_ne (by omega), List.getElem?_replicate, if_pos hi2]
        have hlen : (((List.replicate ws.length (0 : Int)).set i part).set o p).length = ws.length := by simp
        generalize ((List.replicate ws.length (0 : Int)).set i part).set o p = ps at *
        refine ⟨.int 0, by rw [show ((i : Int) + 1) = ((i + 1 : Nat) : Int) by omega, atI_ints, getl ek1]; rfl, .int part, by rw [atI_ints, getl ek]; rfl, sizeLine_big (by decide), ?_⟩
        have e1 : ((i : Int) + 2) = ((i + 2 : Nat) : Int) := by omega
        rw [e1, cut_take, cut_drop]
        refine ⟨sizeLine_big (by simp; omega), sizeLine_big (by simp; omega), sizeLine_big (by decide), ?_⟩
        have e2 : List.take i (iL ps) ++ [D.int 0, D.int part] ++ List.drop (i + 2) (iL ps) = iL ((ps.set i 0).set (i + 1) part) := by
          rw [swap_form (by simp; omega), es, es]
        rw [e2]
        exact h1 _ _ P
    · have g : Int.gcd (w - w') m = 1 := by
        by_cases g : Int.gcd (w - w') m = 1
        · exact g
        · obtain ⟨part, r1, r2, r3⟩ := part_of (by omega) g hm
          exact absurd r3 (no part r1 r2)
      simp only [fnT, startE, List.length_cons, List.length_nil, List.map_cons, List.map_nil, List.cons_append, List.nil_append, Nat.sub_self, Nat.reduceSub, Nat.reduceAdd, Nat.reduceLT, List.replicate_zero, List.reduceReplicate, List.replicate_succ, wpSs, wpS, wpE, wpEs, wpT, wpI, wpC, List.getElem?_cons_zero, List.getElem?_cons_succ, List.getElem?_nil, den, dens, back, true_and, and_true, nrmE, nrmT, frzSlots, cutV1, frzT, frzL, eq_ii, eq_bb, eq_ss, eq_nn, D.isNon, o_add, o_adds, o_addl, o_sub, o_addt, n_split, n_find, o_mul, o_rep, o_div, o_mod, o_pow, c_lt, c_le, c_gt, c_ge, c_lts, c_eq, c_ne, c_is, c_isnot, c_in, c_notin, t_bl, t_non, t_int, t_lst, t_tup, x_lst, x_tup, x_scr, x_str, u_lst, u_scr, u_str, b_lenl, b_lent, b_lenc, b_lens, b_abs, b_max2, b_min2, b_int, b_inb, b_tup, b_srtk, i_lst, i_tup, i_scr, is_n, is_b, exists_eq_left', exists_eq_left, exists_eq_right, Option.some.injEq,  partD, setS, setAll, tgD, tgSlots, wipeE, List.set_cons_zero, List.set_cons_succ, List.set_nil, List.take_nil, List.take_zero, m_f, m_t, r_int, r_bl, r_str, r_non, r_tup, r_lstf, r_lstt, r_v, r_newf, r_newt, List.any_cons, List.any_nil, owned, Bool.or_false, Bool.false_or, fl_bl, fl_int, fl_str, fl_non, fl_rs, exists_eq', Ct.lst.injEq, Ct.ob.injEq, D.kst.injEq, List.take_succ_cons, dat_lst, dat_ob, dat_fz, Option.some.injEq, SV.d.injEq, D.int.injEq, forall_eq', reduceCtorEq, false_implies, forall_const, Bool.false_eq_true, List.set, if_true, if_false, Bool.not_true, Bool.not_false]
      refine ⟨fun q => by simp at q, fun _ => ⟨?_, fun j v v' hj hv hv' => ?_⟩⟩
      · cases d5 with
        | none => exact ⟨_, _, none, _, _, rfl⟩
        | some d => exact ⟨_, _, some d, _, _, rfl⟩
      by_cases q : j = i
      · subst q; rw [hw] at hv; rw [hw'] at hv'; cases hv; cases hv'; exact g
      · exact ih j v v' (by omega) hv hv'
  · rintro e l ⟨rfl, ⟨x3, x4, d5, x6, x7, rfl⟩, ih⟩
    exfalso
    obtain ⟨j, w, w', e1, e2, g⟩ := hs
    have hj2 := (List.getElem?_eq_some_iff.mp e2).1
    refine g (ih j w w' ?_ e1 e2)
    rw [rng_len]
    omega
theorem gl_one {ws : List Int} {m : Int} (hm : 0 < m) (h : ∃ w ∈ ws, Int.gcd w m = 1) : gl ws m = 1 := by
  obtain ⟨w, hw, g⟩ := h
  have d1 : ∀ {us : List Int}, w ∈ us → ((gl us m : Nat) : Int) ∣ w := by
    intro us
    induction us with
    | nil => intro h; simp at h
    | cons a t ih =>
      intro h
      unfold gl
      rcases List.mem_cons.mp h with h | h
      · subst h; exact Int.gcd_dvd_left ..
      · exact Int.dvd_trans (Int.gcd_dvd_right ..) (ih h)
  have d := Int.dvd_gcd (d1 hw) (gl_m (m := m) (ws := ws))
  rw [g] at d
  exact Nat.dvd_one.mp d
theorem not_safe {ws : List Int} {m : Int} (hc : ∀ w ∈ ws, Int.gcd w m = 1) (h : ¬ Safe ws m) : ∃ (j : Nat) (w w' : Int), ws[j]? = some w ∧ ws[j + 1]? = some w' ∧ Int.gcd (w - w') m ≠ 1 := by
  by_cases q : ∃ (j : Nat) (w w' : Int), ws[j]? = some w ∧ ws[j + 1]? = some w' ∧ Int.gcd (w - w') m ≠ 1
  · exact q
  · exfalso
    refine h fun i w hw => ?_
    have hi := (List.getElem?_eq_some_iff.mp hw).1
    rw [fit_take hi]
    refine ⟨hc w (List.mem_of_getElem? hw), ?_⟩
    by_cases z : i = 0
    · exact .inl z
    · have hp : ws[i - 1]? = some ws[i - 1] := List.getElem?_eq_getElem (by omega)
      refine .inr ⟨_, hp, ?_⟩
      by_cases g : Int.gcd (ws[i - 1] - w) m = 1
      · exact g
      · exact absurd ⟨i - 1, _, w, hp, by rw [show i - 1 + 1 = i by omega]; exact hw, g⟩ q
theorem s_unsafe {n : Nat} {cs : List Nat} {ws : List Int} {rest : Int} {k z} (hc : cs.Nodup) (c3 : 3 ≤ cs.length) (c26 : cs.length ≤ 26) (hL : Lt ws cs.length) (w3 : 3 ≤ ws.length) (w8 : ws.length ≤ 8)
    (h0 : Safe ws cs.length → k (.v .non)) (h2 : ¬ (((gl ws cs.length : Nat) : Int) ∣ rest) → k (.v .non)) (h1 : ¬ Safe ws cs.length → ∀ ps qs, Pair ws rest cs.length ps qs → k (.v (.tup [.str (sL (wrd cs ps)), .str (sL (wrd cs qs))]))) :
    wpF fnT gcT (n+4) 8 [.str (sL cs), .lst (iL ws), .int rest] k z := by
  unfold wpF
  simp only [f8, b8, len_sL, fnT, startE, List.length_cons, List.length_nil, List.map_cons, List.map_nil, List.cons_append, List.nil_append, Nat.sub_self, Nat.reduceSub, Nat.reduceAdd, Nat.reduceLT, List.replicate_zero, List.reduceReplicate, List.replicate_succ, wpSs, wpS, wpE, wpEs, wpT, wpI, wpC, List.getElem?_cons_zero, List.getElem?_cons_succ, List.getElem?_nil, den, dens, back, true_and, and_true, nrmE, nrmT, frzSlots, cutV1, frzT, frzL, eq_ii, eq_bb, eq_ss, eq_nn, D.isNon, o_add, o_adds, o_addl, o_sub, o_addt, n_split, n_find, o_mul, o_rep, o_div, o_mod, o_pow, c_lt, c_le, c_gt, c_ge, c_lts, c_eq, c_ne, c_is, c_isnot, c_in, c_notin, t_bl, t_non, t_int, t_lst, t_tup, x_lst, x_tup, x_scr, x_str, u_lst, u_scr, u_str, b_lenl, b_lent, b_lenc, b_lens, b_abs, b_max2, b_min2, b_int, b_inb, b_tup, b_srtk, i_lst, i_tup, i_scr, is_n, is_b, exists_eq_left', exists_eq_left, exists_eq_right, Option.some.injEq,  partD, setS, setAll, tgD, tgSlots, wipeE, List.set_cons_zero, List.set_cons_succ, List.set_nil, List.take_nil, List.take_zero, m_f, m_t, r_int, r_bl, r_str, r_non, r_tup, r_lstf, r_lstt, r_v, r_newf, r_newt, List.any_cons, List.any_nil, owned, Bool.or_false, Bool.false_or, fl_bl, fl_int, fl_str, fl_non, fl_rs, exists_eq', Ct.lst.injEq, Ct.ob.injEq, D.kst.injEq, List.take_succ_cons, dat_lst, dat_ob, dat_fz, Option.some.injEq, SV.d.injEq, D.int.injEq, forall_eq', reduceCtorEq, false_implies, forall_const, Bool.false_eq_true, List.set, if_true, if_false, Bool.not_true, Bool.not_false]
  refine ⟨sizeLine_big (by omega), s_are_safe (n := n) (by omega) ?_⟩
  by_cases hS : Safe ws cs.length
  · rw [safeB_iff.mpr hS]
    simp only [fnT, startE, List.length_cons, List.length_nil, List.map_cons, List.map_nil, List.cons_append, List.nil_append, Nat.sub_self, Nat.reduceSub, Nat.reduceAdd, Nat.reduceLT, List.replicate_zero, List.reduceReplicate, List.replicate_succ, wpSs, wpS, wpE, wpEs, wpT, wpI, wpC, List.getElem?_cons_zero, List.getElem?_cons_succ, List.getElem?_nil, den, dens, back, true_and, and_true, nrmE, nrmT, frzSlots, cutV1, frzT, frzL, eq_ii, eq_bb, eq_ss, eq_nn, D.isNon, o_add, o_adds, o_addl, o_sub, o_addt, n_split, n_find, o_mul, o_rep, o_div, o_mod, o_pow, c_lt, c_le, c_gt, c_ge, c_lts, c_eq, c_ne, c_is, c_isnot, c_in, c_notin, t_bl, t_non, t_int, t_lst, t_tup, x_lst, x_tup, x_scr, x_str, u_lst, u_scr, u_str, b_lenl, b_lent, b_lenc, b_lens, b_abs, b_max2, b_min2, b_int, b_inb, b_tup, b_srtk, i_lst, i_tup, i_scr, is_n, is_b, exists_eq_left', exists_eq_left, exists_eq_right, Option.some.injEq,  partD, setS, setAll, tgD, tgSlots, wipeE, List.set_cons_zero, List.set_cons_succ, List.set_nil, List.take_nil, List.take_zero, m_f, m_t, r_int, r_bl, r_str, r_non, r_tup, r_lstf, r_lstt, r_v, r_newf, r_newt, List.any_cons, List.any_nil, owned, Bool.or_false, Bool.false_or, fl_bl, fl_int, fl_str, fl_non, fl_rs, exists_eq', Ct.lst.injEq, Ct.ob.injEq, D.kst.injEq, List.take_succ_cons, dat_lst, dat_ob, dat_fz, Option.some.injEq, SV.d.injEq, D.int.injEq, forall_eq', reduceCtorEq, false_implies, forall_const, Bool.false_eq_true, List.set, if_true, if_false, Bool.not_true, Bool.not_false]
    exact h0 hS
  · have e : safeB ws cs.length = false := by rw [← Bool.not_eq_true, safeB_iff]; exact hS
    rw [e]
    simp only [fnT, startE, List.length_cons, List.length_nil, List.map_cons, List.map_nil, List.cons_append, List.nil_append, Nat.sub_self, Nat.reduceSub, Nat.reduceAdd, Nat.reduceLT, List.replicate_zero, List.reduceReplicate, List.replicate_succ, wpSs, wpS, wpE, wpEs, wpT, wpI, wpC, List.getElem?_cons_zero, List.getElem?_cons_succ, List.getElem?_nil, den, dens, back, true_and, and_true, nrmE, nrmT, frzSlots, cutV1, frzT, frzL, eq_ii, eq_bb, eq_ss, eq_nn, D.isNon, o_add, o_adds, o_addl, o_sub, o_addt, n_split, n_find, o_mul, o_rep, o_div, o_mod, o_pow, c_lt, c_le, c_gt, c_ge, c_lts, c_eq, c_ne, c_is, c_isnot, c_in, c_notin, t_bl, t_non, t_int, t_lst, t_tup, x_lst, x_tup, x_scr, x_str, u_lst, u_scr, u_str, b_lenl, b_lent, b_lenc, b_lens, b_abs, b_max2, b_min2, b_int, b_inb, b_tup, b_srtk, i_lst, i_tup, i_scr, is_n, is_b, exists_eq_left', exists_eq_left, exists_eq_right, Option.some.injEq,  partD, setS, setAll, tgD, tgSlots, wipeE, List.set_cons_zero, List.set_cons_succ, List.set_nil, List.take_nil, List.take_zero, m_f, m_t, r_int, r_bl, r_str, r_non, r_tup, r_lstf, r_lstt, r_v, r_newf, r_newt, List.any_cons, List.any_nil, owned, Bool.or_false, Bool.false_or, fl_bl, fl_int, fl_str, fl_non, fl_rs, exists_eq', Ct.lst.injEq, Ct.ob.injEq, D.kst.injEq, List.take_succ_cons, dat_lst, dat_ob, dat_fz, Option.some.injEq, SV.d.injEq, D.int.injEq, forall_eq', reduceCtorEq, false_implies, forall_const, Bool.false_eq_true, List.set, if_true, if_false, Bool.not_true, Bool.not_false]
    have tail : ∀ ps qs, Pair ws rest cs.length ps qs → ∀ x5 x6 x7 : Option SV, wpSs (wpF fnT gcT (n + 3)) gcT b8_4 [some (SV.d (D.str (sL cs))), some (SV.d (D.lst (iL ws))), some (SV.d (D.int rest)), some (SV.d (D.int cs.length)), some (SV.d (D.tup [.lst (iL ps), .lst (iL qs)])), x5, x6, x7] []
        { nx := fun x x_1 => k (Rs.v D.non), rt := PD.back false k, bk := fun x x_1 => False, ct := fun x x_1 => False, z := fun x x_1 x_2 => z x } := fun ps qs P x5 x6 x7 => by
      simp only [b8_4, fnT, startE, List.length_cons, List.length_nil, List.map_cons, List.map_nil, List.cons_append, List.nil_append, Nat.sub_self, Nat.reduceSub, Nat.reduceAdd, Nat.reduceLT, List.replicate_zero, List.reduceReplicate, List.replicate_succ, wpSs, wpS, wpE, wpEs, wpT, wpI, wpC, List.getElem?_cons_zero, List.getElem?_cons_succ, List.getElem?_nil, den, dens, back, true_and, and_true, nrmE, nrmT, frzSlots, cutV1, frzT, frzL, eq_ii, eq_bb, eq_ss, eq_nn, D.isNon, o_add, o_adds, o_addl, o_sub, o_addt, n_split, n_find, o_mul, o_rep, o_div, o_mod, o_pow, c_lt, c_le, c_gt, c_ge, c_lts, c_eq, c_ne, c_is, c_isnot, c_in, c_notin, t_bl, t_non, t_int, t_lst, t_tup, x_lst, x_tup, x_scr, x_str, u_lst, u_scr, u_str, b_lenl, b_lent, b_lenc, b_lens, b_abs, b_max2, b_min2, b_int, b_inb, b_tup, b_srtk, i_lst, i_tup, i_scr, is_n, is_b, exists_eq_left', exists_eq_left, exists_eq_right, Option.some.injEq,  partD, setS, setAll, tgD, tgSlots, wipeE, List.set_cons_zero, List.set_cons_succ, List.set_nil, List.take_nil, List.take_zero, m_f, m_t, r_int, r_bl, r_str, r_non, r_tup, r_lstf, r_lstt, r_v, r_newf, r_newt, List.any_cons, List.any_nil, owned, Bool.or_false, Bool.false_or, fl_bl, fl_int, fl_str, fl_non, fl_rs, exists_eq', Ct.lst.injEq, Ct.ob.injEq, D.kst.injEq, List.take_succ_cons, dat_lst, dat_ob, dat_fz, Option.some.injEq, SV.d.injEq, D.int.injEq, forall_eq', reduceCtorEq, false_implies, forall_const, Bool.false_eq_true, List.set, if_true, if_false, Bool.not_true, Bool.not_false]
      simp only [b8_3, fnT, startE, List.length_cons, List.length_nil, List.map_cons, List.map_nil, List.cons_append, List.nil_append, Nat.sub_self, Nat.reduceSub, Nat.reduceAdd, Nat.reduceLT, List.replicate_zero, List.reduceReplicate, List.replicate_succ, wpSs, wpS, wpE, wpEs, wpT, wpI, wpC, List.getElem?_cons_zero, List.getElem?_cons_succ, List.getElem?_nil, den, dens, back, true_and, and_true, nrmE, nrmT, frzSlots, cutV1, frzT, frzL, eq_ii, eq_bb, eq_ss, eq_nn, D.isNon, o_add, o_adds, o_addl, o_sub, o_addt, n_split, n_find, o_mul, o_rep, o_div, o_mod, o_pow, c_lt, c_le, c_gt, c_ge, c_lts, c_eq, c_ne, c_is, c_isnot, c_in, c_notin, t_bl, t_non, t_int, t_lst, t_tup, x_lst, x_tup, x_scr, x_str, u_lst, u_scr, u_str, b_lenl, b_lent, b_lenc, b_lens, b_abs, b_max2, b_min2, b_int, b_inb, b_tup, b_srtk, i_lst, i_tup, i_scr, is_n, is_b, exists_eq_left', exists_eq_left, exists_eq_right, Option.some.injEq,  partD, setS, setAll, tgD, tgSlots, wipeE, List.set_cons_zero, List.set_cons_succ, List.set_nil, List.take_nil, List.take_zero, m_f, m_t, r_int, r_bl, r_str, r_non, r_tup, r_lstf, r_lstt, r_v, r_newf, r_newt, List.any_cons, List.any_nil, owned, Bool.or_false, Bool.false_or, fl_bl, fl_int, fl_str, fl_non, fl_rs, exists_eq', Ct.lst.injEq, Ct.ob.injEq, D.kst.injEq, List.take_succ_cons, dat_lst, dat_ob, dat_fz, Option.some.injEq, SV.d.injEq, D.int.injEq, forall_eq', reduceCtorEq, false_implies, forall_const, Bool.false_eq_true, List.set, if_true, if_false, Bool.not_true, Bool.not_false]
      refine ⟨fun i acc => acc = ([wrd cs ps, wrd cs qs].take i).map (fun w => D.str (sL w)), rfl, ?_, ?_⟩
      · rintro i x acc hx rfl
        have item : ∃ us, [ps, qs][i]? = some us ∧ x = .lst (iL us) ∧ Lt us cs.length ∧ us.length = ws.length := by
          rcases i with _ | _ | i
          · exact ⟨ps, rfl, (Option.some.inj hx).symm, P.b1, P.l1⟩
          · exact ⟨qs, rfl, (Option.some.inj hx).symm, P.b2, P.l2⟩
          · simp at hx
        obtain ⟨us, hus, rfl, hP, hul⟩ := item
        simp only [b8_2, fnT, startE, List.length_cons, List.length_nil, List.map_cons, List.map_nil, List.cons_append, List.nil_append, Nat.sub_self, Nat.reduceSub, Nat.reduceAdd, Nat.reduceLT, List.replicate_zero, List.reduceReplicate, List.replicate_succ, wpSs, wpS, wpE, wpEs, wpT, wpI, wpC, List.getElem?_cons_zero, List.getElem?_cons_succ, List.getElem?_nil, den, dens, back, true_and, and_true, nrmE, nrmT, frzSlots, cutV1, frzT, frzL, eq_ii, eq_bb, eq_ss, eq_nn, D.isNon, o_add, o_adds, o_addl, o_sub, o_addt, n_split, n_find, o_mul, o_rep, o_div, o_mod, o_pow, c_lt, c_le, c_gt, c_ge, c_lts, c_eq, c_ne, c_is, c_isnot, c_in, c_notin, t_bl, t_non, t_int, t_lst, t_tup, x_lst, x_tup, x_scr, x_str, u_lst, u_scr, u_str, b_lenl, b_lent, b_lenc, b_lens, b_abs, b_max2, b_min2, b_int, b_inb, b_tup, b_srtk, i_lst, i_tup, i_scr, is_n, is_b, exists_eq_left', exists_eq_left, exists_eq_right, Option.some.injEq,  partD, setS, setAll, tgD, tgSlots, wipeE, List.set_cons_zero, List.set_cons_succ, List.set_nil, List.take_nil, List.take_zero, m_f, m_t, r_int, r_bl, r_str, r_non, r_tup, r_lstf, r_lstt, r_v, r_newf, r_newt, List.any_cons, List.any_nil, owned, Bool.or_false, Bool.false_or, fl_bl, fl_int, fl_str, fl_non, fl_rs, exists_eq', Ct.lst.injEq, Ct.ob.injEq, D.kst.injEq, List.take_succ_cons, dat_lst, dat_ob, dat_fz, Option.some.injEq, SV.d.injEq, D.int.injEq, forall_eq', reduceCtorEq, false_implies, forall_const, Bool.false_eq_true, List.set, if_true, if_false, Bool.not_true, Bool.not_false]
        refine ⟨fun j acc => acc = ((wrd cs us).take j).map (fun x => D.str (ch x)), rfl, ?_, ?_⟩
        · rintro j x acc hx rfl
          obtain ⟨p, hp2, rfl⟩ := lst_it hx
          have b := hP p (List.mem_of_getElem? hp2)
          have hj := (List.getElem?_eq_some_iff.mp hp2).1
          have a1 : atI (sL cs).cps.toList p = some (cs.getD p.toNat 0) := by
            rw [list_sL, atI_pos b.1 b.2, List.getD_eq_getElem?_getD, List.getElem?_eq_getElem (by omega)]; rfl
          simp only [b8_1, fnT, startE, List.length_cons, List.length_nil, List.map_cons, List.map_nil, List.cons_append, List.nil_append, Nat.sub_self, Nat.reduceSub, Nat.reduceAdd, Nat.reduceLT, List.replicate_zero, List.reduceReplicate, List.replicate_succ, wpSs, wpS, wpE, wpEs, wpT, wpI, wpC, List.getElem?_cons_zero, List.getElem?_cons_succ, List.getElem?_nil, den, dens, back, true_and, and_true, nrmE, nrmT, frzSlots, cutV1, frzT, frzL, eq_ii, eq_bb, eq_ss, eq_nn, D.isNon, o_add, o_adds, o_addl, o_sub, o_addt, n_split, n_find, o_mul, o_rep, o_div, o_mod, o_pow, c_lt, c_le, c_gt, c_ge, c_lts, c_eq, c_ne, c_is, c_isnot, c_in, c_notin, t_bl, t_non, t_int, t_lst, t_tup, x_lst, x_tup, x_scr, x_str, u_lst, u_scr, u_str, b_lenl, b_lent, b_lenc, b_lens, b_abs, b_max2, b_min2, b_int, b_inb, b_tup, b_srtk, i_lst, i_tup, i_scr, is_n, is_b, exists_eq_left', exists_eq_left, exists_eq_right, Option.some.injEq,  partD, setS, setAll, tgD, tgSlots, wipeE, List.set_cons_zero, List.set_cons_succ, List.set_nil, List.take_nil, List.take_zero, m_f, m_t, r_int, r_bl, r_str, r_non, r_tup, r_lstf, r_lstt, r_v, r_newf, r_newt, List.any_cons, List.any_nil, owned, Bool.or_false, Bool.false_or, fl_bl, fl_int, fl_str, fl_non, fl_rs, exists_eq', Ct.lst.injEq, Ct.ob.injEq, D.kst.injEq, List.take_succ_cons, dat_lst, dat_ob, dat_fz, Option.some.injEq, SV.d.injEq, D.int.injEq, forall_eq', reduceCtorEq, false_implies, forall_const, Bool.false_eq_true, List.set, if_true, if_false, Bool.not_true, Bool.not_false]
          refine ⟨_, sizeLine_big (by rw [len_sL]; omega), a1, sizeLine_lt (by simp [wrd]; omega), ?_⟩
          have e2 : (wrd cs us)[j]? = some (cs.getD p.toNat 0) := by unfold wrd; rw [List.getElem?_map, hp2]; rfl
          rw [List.take_add_one, e2]
          simp
        · rintro acc rfl
          have e : (us.map D.int).length = (wrd cs us).length := by simp [wrd]
          rw [e, List.take_length, n_join]
          refine ⟨(wrd cs us).map ch, by simp, ?_, ?_⟩
          · have e : (((wrd cs us).map ch).map (·.length)).sum = us.length := by
              rw [List.map_map]
              have e3 : ((fun x : Str => x.length) ∘ ch) = fun _ => 1 := rfl
              rw [e3, List.map_const', List.sum_replicate_nat]
              simp [wrd]
            rw [e, empty_str]
            show us.length + ((wrd cs us).map ch).length * 0 ≤ _
            omega
          · rw [empty_str, join_chs]
            simp only [fnT, startE, List.length_cons, List.length_nil, List.map_cons, List.map_nil, List.cons_append, List.nil_append, Nat.sub_self, Nat.reduceSub, Nat.reduceAdd, Nat.reduceLT, List.replicate_zero, List.reduceReplicate, List.replicate_succ, wpSs, wpS, wpE, wpEs, wpT, wpI, wpC, List.getElem?_cons_zero, List.getElem?_cons_succ, List.getElem?_nil, den, dens, back, true_and, and_true, nrmE, nrmT, frzSlots, cutV1, frzT, frzL, eq_ii, eq_bb, eq_ss, eq_nn, D.isNon, o_add, o_adds, o_addl, o_sub, o_addt, n_split, n_find, o_mul, o_rep, o_div, o_mod, o_pow, c_lt, c_le, c_gt, c_ge, c_lts, c_eq, c_ne, c_is, c_isnot, c_in, c_notin, t_bl, t_non, t_int, t_lst, t_tup, x_lst, x_tup, x_scr, x_str, u_lst, u_scr, u_str, b_lenl, b_lent, b_lenc, b_lens, b_abs, b_max2, b_min2, b_int, b_inb, b_tup, b_srtk, i_lst, i_tup, i_scr, is_n, is_b, exists_eq_left', exists_eq_left, exists_eq_right, Option.some.injEq,  partD, setS, setAll, tgD, tgSlots, wipeE, List.set_cons_zero, List.set_cons_succ, List.set_nil, List.take_nil, List.take_zero, m_f, m_t, r_int, r_bl, r_str, r_non, r_tup, r_lstf, r_lstt, r_v, r_newf, r_newt, List.any_cons, List.any_nil, owned, Bool.or_false, Bool.false_or, fl_bl, fl_int, fl_str, fl_non, fl_rs, exists_eq', Ct.lst.injEq, Ct.ob.injEq, D.kst.injEq, List.take_succ_cons, dat_lst, dat_ob, dat_fz, Option.some.injEq, SV.d.injEq, D.int.injEq, forall_eq', reduceCtorEq, false_implies, forall_const, Bool.false_eq_true, List.set, if_true, if_false, Bool.not_true, Bool.not_false]
            rcases i with _ | _ | i
            · cases hus
              exact ⟨sizeLine_lt (by simp), by simp⟩
            · cases hus
              exact ⟨sizeLine_lt (by simp), by simp⟩
            · simp at hus
      · rintro acc rfl
        simp only [fnT, startE, List.length_cons, List.length_nil, List.map_cons, List.map_nil, List.cons_append, List.nil_append, Nat.sub_self, Nat.reduceSub, Nat.reduceAdd, Nat.reduceLT, List.replicate_zero, List.reduceReplicate, List.replicate_succ, wpSs, wpS, wpE, wpEs, wpT, wpI, wpC, List.getElem?_cons_zero, List.getElem?_cons_succ, List.getElem?_nil, den, dens, back, true_and, and_true, nrmE, nrmT, frzSlots, cutV1, frzT, frzL, eq_ii, eq_bb, eq_ss, eq_nn, D.isNon, o_add, o_adds, o_addl, o_sub, o_addt, n_split, n_find, o_mul, o_rep, o_div, o_mod, o_pow, c_lt, c_le, c_gt, c_ge, c_lts, c_eq, c_ne, c_is, c_isnot, c_in, c_notin, t_bl, t_non, t_int, t_lst, t_tup, x_lst, x_tup, x_scr, x_str, u_lst, u_scr, u_str, b_lenl, b_lent, b_lenc, b_lens, b_abs, b_max2, b_min2, b_int, b_inb, b_tup, b_srtk, i_lst, i_tup, i_scr, is_n, is_b, exists_eq_left', exists_eq_left, exists_eq_right, Option.some.injEq,  partD, setS, setAll, tgD, tgSlots, wipeE, List.set_cons_zero, List.set_cons_succ, List.set_nil, List.take_nil, List.take_zero, m_f, m_t, r_int, r_bl, r_str, r_non, r_tup, r_lstf, r_lstt, r_v, r_newf, r_newt, List.any_cons, List.any_nil, owned, Bool.or_false, Bool.false_or, fl_bl, fl_int, fl_str, fl_non, fl_rs, exists_eq', Ct.lst.injEq, Ct.ob.injEq, D.kst.injEq, List.take_succ_cons, dat_lst, dat_ob, dat_fz, Option.some.injEq, SV.d.injEq, D.int.injEq, forall_eq', reduceCtorEq, false_implies, forall_const, Bool.false_eq_true, List.set, if_true, if_false, Bool.not_true, Bool.not_false]
        exact h1 hS ps qs P
    simp only [b8_5, fnT, startE, List.length_cons, List.length_nil, List.map_cons, List.map_nil, List.cons_append, List.nil_append, Nat.sub_self, Nat.reduceSub, Nat.reduceAdd, Nat.reduceLT, List.replicate_zero, List.reduceReplicate, List.replicate_succ, wpSs, wpS, wpE, wpEs, wpT, wpI, wpC, List.getElem?_cons_zero, List.getElem?_cons_succ, List.getElem?_nil, den, dens, back, true_and, and_true, nrmE, nrmT, frzSlots, cutV1, frzT, frzL, eq_ii, eq_bb, eq_ss, eq_nn, D.isNon, o_add, o_adds, o_addl, o_sub, o_addt, n_split, n_find, o_mul, o_rep, o_div, o_mod, o_pow, c_lt, c_le, c_gt, c_ge, c_lts, c_eq, c_ne, c_is, c_isnot, c_in, c_notin, t_bl, t_non, t_int, t_lst, t_tup, x_lst, x_tup, x_scr, x_str, u_lst, u_scr, u_str, b_lenl, b_lent, b_lenc, b_lens, b_abs, b_max2, b_min2, b_int, b_inb, b_tup, b_srtk, i_lst, i_tup, i_scr, is_n, is_b, exists_eq_left', exists_eq_left, exists_eq_right, Option.some.injEq,  partD, setS, setAll, tgD, tgSlots, wipeE, List.set_cons_zero, List.set_cons_succ, List.set_nil, List.take_nil, List.take_zero, m_f, m_t, r_int, r_bl, r_str, r_non, r_tup, r_lstf, r_lstt, r_v, r_newf, r_newt, List.any_cons, List.any_nil, owned, Bool.or_false, Bool.false_or, fl_bl, fl_int, fl_str, fl_non, fl_rs, exists_eq', Ct.lst.injEq, Ct.ob.injEq, D.kst.injEq, List.take_succ_cons, dat_lst, dat_ob, dat_fz, Option.some.injEq, SV.d.injEq, D.int.injEq, forall_eq', reduceCtorEq, false_implies, forall_const, Bool.false_eq_true, List.set, if_true, if_false, Bool.not_true, Bool.not_false]
    refine ⟨fun j acc => ∃ qs, acc = iL qs ∧ qs.length = j ∧ (∀ y ∈ qs, 0 ≤ y) ∧ ((∃ y ∈ qs, 0 < y) → ∃ w ∈ ws, Int.gcd w (cs.length : Int) ≠ 1) ∧ ((∀ y ∈ qs, ¬ 0 < y) → ∀ i w, i < j → ws[i]? = some w → Int.gcd w (cs.length : Int) = 1), ⟨[], rfl, rfl, fun y hy => by simp at hy, fun ⟨y, hy, _⟩ => by simp at hy, fun _ i w hi => by omega⟩, ?_, ?_⟩
    · rintro j x acc hx ⟨qs, rfl, hq, hq0, hqa, hqb⟩
      obtain ⟨w, hw, rfl⟩ := lst_it hx
      have wb := hL w (List.mem_of_getElem? hw)
      have hj := (List.getElem?_eq_some_iff.mp hw).1
      simp only [b8_0, fnT, startE, List.length_cons, List.length_nil, List.map_cons, List.map_nil, List.cons_append, List.nil_append, Nat.sub_self, Nat.reduceSub, Nat.reduceAdd, Nat.reduceLT, List.replicate_zero, List.reduceReplicate, List.replicate_succ, wpSs, wpS, wpE, wpEs, wpT, wpI, wpC, List.getElem?_cons_zero, List.getElem?_cons_succ, List.getElem?_nil, den, dens, back, true_and, and_true, nrmE, nrmT, frzSlots, cutV1, frzT, frzL, eq_ii, eq_bb, eq_ss, eq_nn, D.isNon, o_add, o_adds, o_addl, o_sub, o_addt, n_split, n_find, o_mul, o_rep, o_div, o_mod, o_pow, c_lt, c_le, c_gt, c_ge, c_lts, c_eq, c_ne, c_is, c_isnot, c_in, c_notin, t_bl, t_non, t_int, t_lst, t_tup, x_lst, x_tup, x_scr, x_str, u_lst, u_scr, u_str, b_lenl, b_lent, b_lenc, b_lens, b_abs, b_max2, b_min2, b_int, b_inb, b_tup, b_srtk, i_lst, i_tup, i_scr, is_n, is_b, exists_eq_left', exists_eq_left, exists_eq_right, Option.some.injEq,  partD, setS, setAll, tgD, tgSlots, wipeE, List.set_cons_zero, List.set_cons_succ, List.set_nil, List.take_nil, List.take_zero, m_f, m_t, r_int, r_bl, r_str, r_non, r_tup, r_lstf, r_lstt, r_v, r_newf, r_newt, List.any_cons, List.any_nil, owned, Bool.or_false, Bool.false_or, fl_bl, fl_int, fl_str, fl_non, fl_rs, exists_eq', Ct.lst.injEq, Ct.ob.injEq, D.kst.injEq, List.take_succ_cons, dat_lst, dat_ob, dat_fz, Option.some.injEq, SV.d.injEq, D.int.injEq, forall_eq', reduceCtorEq, false_implies, forall_const, Bool.false_eq_true, List.set, if_true, if_false, Bool.not_true, Bool.not_false]
      refine s_shared (by omega) (by omega) (by omega) (by omega) (fun part p1 p2 p3 => ?_) (fun no => ?_)
      · simp only [fnT, startE, List.length_cons, List.length_nil, List.map_cons, List.map_nil, List.cons_append, List.nil_append, Nat.sub_self, Nat.reduceSub, Nat.reduceAdd, Nat.reduceLT, List.replicate_zero, List.reduceReplicate, List.replicate_succ, wpSs, wpS, wpE, wpEs, wpT, wpI, wpC, List.getElem?_cons_zero, List.getElem?_cons_succ, List.getElem?_nil, den, dens, back, true_and, and_true, nrmE, nrmT, frzSlots, cutV1, frzT, frzL, eq_ii, eq_bb, eq_ss, eq_nn, D.isNon, o_add, o_adds, o_addl, o_sub, o_addt, n_split, n_find, o_mul, o_rep, o_div, o_mod, o_pow, c_lt, c_le, c_gt, c_ge, c_lts, c_eq, c_ne, c_is, c_isnot, c_in, c_notin, t_bl, t_non, t_int, t_lst, t_tup, x_lst, x_tup, x_scr, x_str, u_lst, u_scr, u_str, b_lenl, b_lent, b_lenc, b_lens, b_abs, b_max2, b_min2, b_int, b_inb, b_tup, b_srtk, i_lst, i_tup, i_scr, is_n, is_b, exists_eq_left', exists_eq_left, exists_eq_right, Option.some.injEq,  partD, setS, setAll, tgD, tgSlots, wipeE, List.set_cons_zero, List.set_cons_succ, List.set_nil, List.take_nil, List.take_zero, m_f, m_t, r_int, r_bl, r_str, r_non, r_tup, r_lstf, r_lstt, r_v, r_newf, r_newt, List.any_cons, List.any_nil, owned, Bool.or_false, Bool.false_or, fl_bl, fl_int, fl_str, fl_non, fl_rs, exists_eq', Ct.lst.injEq, Ct.ob.injEq, D.kst.injEq, List.take_succ_cons, dat_lst, dat_ob, dat_fz, Option.some.injEq, SV.d.injEq, D.int.injEq, forall_eq', reduceCtorEq, false_implies, forall_const, Bool.false_eq_true, List.set, if_true, if_false, Bool.not_true, Bool.not_false]
        refine ⟨sizeLine_lt (by rw [len_ints]; omega), qs ++ [part], by rw [app_ints], by simp [hq], fun y hy => ?_, fun _ => ⟨w, List.mem_of_getElem? hw, fun g => no_part g p1 p2 p3⟩, fun hn => absurd (show 0 < part by omega) (hn part (by simp))⟩
        rcases List.mem_append.mp hy with h | h
        · exact hq0 y h
        · simp at h; omega
      · simp only [fnT, startE, List.length_cons, List.length_nil, List.map_cons, List.map_nil, List.cons_append, List.nil_append, Nat.sub_self, Nat.reduceSub, Nat.reduceAdd, Nat.reduceLT, List.replicate_zero, List.reduceReplicate, List.replicate_succ, wpSs, wpS, wpE, wpEs, wpT, wpI, wpC, List.getElem?_cons_zero, List.getElem?_cons_succ, List.getElem?_nil, den, dens, back, true_and, and_true, nrmE, nrmT, frzSlots, cutV1, frzT, frzL, eq_ii, eq_bb, eq_ss, eq_nn, D.isNon, o_add, o_adds, o_addl, o_sub, o_addt, n_split, n_find, o_mul, o_rep, o_div, o_mod, o_pow, c_lt, c_le, c_gt, c_ge, c_lts, c_eq, c_ne, c_is, c_isnot, c_in, c_notin, t_bl, t_non, t_int, t_lst, t_tup, x_lst, x_tup, x_scr, x_str, u_lst, u_scr, u_str, b_lenl, b_lent, b_lenc, b_lens, b_abs, b_max2, b_min2, b_int, b_inb, b_tup, b_srtk, i_lst, i_tup, i_scr, is_n, is_b, exists_eq_left', exists_eq_left, exists_eq_right, Option.some.injEq,  partD, setS, setAll, tgD, tgSlots, wipeE, List.set_cons_zero, List.set_cons_succ, List.set_nil, List.take_nil, List.take_zero, m_f, m_t, r_int, r_bl, r_str, r_non, r_tup, r_lstf, r_lstt, r_v, r_newf, r_newt, List.any_cons, List.any_nil, owned, Bool.or_false, Bool.false_or, fl_bl, fl_int, fl_str, fl_non, fl_rs, exists_eq', Ct.lst.injEq, Ct.ob.injEq, D.kst.injEq, List.take_succ_cons, dat_lst, dat_ob, dat_fz, Option.some.injEq, SV.d.injEq, D.int.injEq, forall_eq', reduceCtorEq, false_implies, forall_const, Bool.false_eq_true, List.set, if_true, if_false, Bool.not_true, Bool.not_false]
        refine ⟨sizeLine_lt (by rw [len_ints]; omega), qs ++ [0], by rw [app_ints], by simp [hq], fun y hy => ?_, fun ⟨y, hy, hp⟩ => ?_, fun hn i w' hi hw' => ?_⟩
        · rcases List.mem_append.mp hy with h | h
          · exact hq0 y h
          · simp at h; omega
        · rcases List.mem_append.mp hy with h | h
          · exact hqa ⟨y, h, hp⟩
          · simp at h; omega
        · by_cases q : i = j
          · subst q
            rw [hw] at hw'; cases hw'
            by_cases g : Int.gcd w (cs.length : Int) = 1
            · exact g
            · obtain ⟨part, r1, r2, r3⟩ := part_of (by omega) g (by omega)
              exact absurd r3 (no part r1 r2)
          · exact hqb (fun y hy => hn y (by simp [hy])) i w' (by omega) hw'
    · rintro acc ⟨qs, rfl, hq, hq0, hqa, hqb⟩
      rw [len_ints] at hq hqb
      refine ⟨qs, rfl, by omega, fun mx hmx hle => ?_⟩
      simp only [fnT, startE, List.length_cons, List.length_nil, List.map_cons, List.map_nil, List.cons_append, List.nil_append, Nat.sub_self, Nat.reduceSub, Nat.reduceAdd, Nat.reduceLT, List.replicate_zero, List.reduceReplicate, List.replicate_succ, wpSs, wpS, wpE, wpEs, wpT, wpI, wpC, List.getElem?_cons_zero, List.getElem?_cons_succ, List.getElem?_nil, den, dens, back, true_and, and_true, nrmE, nrmT, frzSlots, cutV1, frzT, frzL, eq_ii, eq_bb, eq_ss, eq_nn, D.isNon, o_add, o_adds, o_addl, o_sub, o_addt, n_split, n_find, o_mul, o_rep, o_div, o_mod, o_pow, c_lt, c_le, c_gt, c_ge, c_lts, c_eq, c_ne, c_is, c_isnot, c_in, c_notin, t_bl, t_non, t_int, t_lst, t_tup, x_lst, x_tup, x_scr, x_str, u_lst, u_scr, u_str, b_lenl, b_lent, b_lenc, b_lens, b_abs, b_max2, b_min2, b_int, b_inb, b_tup, b_srtk, i_lst, i_tup, i_scr, is_n, is_b, exists_eq_left', exists_eq_left, exists_eq_right, Option.some.injEq,  partD, setS, setAll, tgD, tgSlots, wipeE, List.set_cons_zero, List.set_cons_succ, List.set_nil, List.take_nil, List.take_zero, m_f, m_t, r_int, r_bl, r_str, r_non, r_tup, r_lstf, r_lstt, r_v, r_newf, r_newt, List.any_cons, List.any_nil, owned, Bool.or_false, Bool.false_or, fl_bl, fl_int, fl_str, fl_non, fl_rs, exists_eq', Ct.lst.injEq, Ct.ob.injEq, D.kst.injEq, List.take_succ_cons, dat_lst, dat_ob, dat_fz, Option.some.injEq, SV.d.injEq, D.int.injEq, forall_eq', reduceCtorEq, false_implies, forall_const, Bool.false_eq_true, List.set, if_true, if_false, Bool.not_true, Bool.not_false]
      refine ⟨fun hg => ?_, fun hg => ?_⟩
      · have hg : 0 < mx := by simpa using hg
        have hs := hqa ⟨mx, hmx, hg⟩
        refine s_exchanged (n := n) (by omega) (by omega) hL (by omega) hs (fun ps qs P => ?_) (fun nr => ?_)
        · simp only [fnT, startE, List.length_cons, List.length_nil, List.map_cons, List.map_nil, List.cons_append, List.nil_append, Nat.sub_self, Nat.reduceSub, Nat.reduceAdd, Nat.reduceLT, List.replicate_zero, List.reduceReplicate, List.replicate_succ, wpSs, wpS, wpE, wpEs, wpT, wpI, wpC, List.getElem?_cons_zero, List.getElem?_cons_succ, List.getElem?_nil, den, dens, back, true_and, and_true, nrmE, nrmT, frzSlots, cutV1, frzT, frzL, eq_ii, eq_bb, eq_ss, eq_nn, D.isNon, o_add, o_adds, o_addl, o_sub, o_addt, n_split, n_find, o_mul, o_rep, o_div, o_mod, o_pow, c_lt, c_le, c_gt, c_ge, c_lts, c_eq, c_ne, c_is, c_isnot, c_in, c_notin, t_bl, t_non, t_int, t_lst, t_tup, x_lst, x_tup, x_scr, x_str, u_lst, u_scr, u_str, b_lenl, b_lent, b_lenc, b_lens, b_abs, b_max2, b_min2, b_int, b_inb, b_tup, b_srtk, i_lst, i_tup, i_scr, is_n, is_b, exists_eq_left', exists_eq_left, exists_eq_right, Option.some.injEq,  partD, setS, setAll, tgD, tgSlots, wipeE, List.set_cons_zero, List.set_cons_succ, List.set_nil, List.take_nil, List.take_zero, m_f, m_t, r_int, r_bl, r_str, r_non, r_tup, r_lstf, r_lstt, r_v, r_newf, r_newt, List.any_cons, List.any_nil, owned, Bool.or_false, Bool.false_or, fl_bl, fl_int, fl_str, fl_non, fl_rs, exists_eq', Ct.lst.injEq, Ct.ob.injEq, D.kst.injEq, List.take_succ_cons, dat_lst, dat_ob, dat_fz, Option.some.injEq, SV.d.injEq, D.int.injEq, forall_eq', reduceCtorEq, false_implies, forall_const, Bool.false_eq_true, List.set, if_true, if_false, Bool.not_true, Bool.not_false]
          exact tail ps qs P _ _ _
        · simp only [b8_4, fnT, startE, List.length_cons, List.length_nil, List.map_cons, List.map_nil, List.cons_append, List.nil_append, Nat.sub_self, Nat.reduceSub, Nat.reduceAdd, Nat.reduceLT, List.replicate_zero, List.reduceReplicate, List.replicate_succ, wpSs, wpS, wpE, wpEs, wpT, wpI, wpC, List.getElem?_cons_zero, List.getElem?_cons_succ, List.getElem?_nil, den, dens, back, true_and, and_true, nrmE, nrmT, frzSlots, cutV1, frzT, frzL, eq_ii, eq_bb, eq_ss, eq_nn, D.isNon, o_add, o_adds, o_addl, o_sub, o_addt, n_split, n_find, o_mul, o_rep, o_div, o_mod, o_pow, c_lt, c_le, c_gt, c_ge, c_lts, c_eq, c_ne, c_is, c_isnot, c_in, c_notin, t_bl, t_non, t_int, t_lst, t_tup, x_lst, x_tup, x_scr, x_str, u_lst, u_scr, u_str, b_lenl, b_lent, b_lenc, b_lens, b_abs, b_max2, b_min2, b_int, b_inb, b_tup, b_srtk, i_lst, i_tup, i_scr, is_n, is_b, exists_eq_left', exists_eq_left, exists_eq_right, Option.some.injEq,  partD, setS, setAll, tgD, tgSlots, wipeE, List.set_cons_zero, List.set_cons_succ, List.set_nil, List.take_nil, List.take_zero, m_f, m_t, r_int, r_bl, r_str, r_non, r_tup, r_lstf, r_lstt, r_v, r_newf, r_newt, List.any_cons, List.any_nil, owned, Bool.or_false, Bool.false_or, fl_bl, fl_int, fl_str, fl_non, fl_rs, exists_eq', Ct.lst.injEq, Ct.ob.injEq, D.kst.injEq, List.take_succ_cons, dat_lst, dat_ob, dat_fz, Option.some.injEq, SV.d.injEq, D.int.injEq, forall_eq', reduceCtorEq, false_implies, forall_const, Bool.false_eq_true, List.set, if_true, if_false, Bool.not_true, Bool.not_false]
          exact h2 fun hd => nr (gl_reach (by omega) hd)
      · have hg : ¬ 0 < mx := by simpa using hg
        have allc : ∀ w ∈ ws, Int.gcd w (cs.length : Int) = 1 := fun w hw => by
          obtain ⟨i, hi⟩ := List.getElem?_of_mem hw
          exact hqb (fun y hy hp => hg (by have := hle y hy; omega)) i w (List.getElem?_eq_some_iff.mp hi).1 hi
        refine s_swapped (n := n + 1) (by omega) (by omega) hL (by omega) w3 allc (not_safe allc hS) (fun ps qs P => ?_)
        simp only [fnT, startE, List.length_cons, List.length_nil, List.map_cons, List.map_nil, List.cons_append, List.nil_append, Nat.sub_self, Nat.reduceSub, Nat.reduceAdd, Nat.reduceLT, List.replicate_zero, List.reduceReplicate, List.replicate_succ, wpSs, wpS, wpE, wpEs, wpT, wpI, wpC, List.getElem?_cons_zero, List.getElem?_cons_succ, List.getElem?_nil, den, dens, back, true_and, and_true, nrmE, nrmT, frzSlots, cutV1, frzT, frzL, eq_ii, eq_bb, eq_ss, eq_nn, D.isNon, o_add, o_adds, o_addl, o_sub, o_addt, n_split, n_find, o_mul, o_rep, o_div, o_mod, o_pow, c_lt, c_le, c_gt, c_ge, c_lts, c_eq, c_ne, c_is, c_isnot, c_in, c_notin, t_bl, t_non, t_int, t_lst, t_tup, x_lst, x_tup, x_scr, x_str, u_lst, u_scr, u_str, b_lenl, b_lent, b_lenc, b_lens, b_abs, b_max2, b_min2, b_int, b_inb, b_tup, b_srtk, i_lst, i_tup, i_scr, is_n, is_b, exists_eq_left', exists_eq_left, exists_eq_right, Option.some.injEq,  partD, setS, setAll, tgD, tgSlots, wipeE, List.set_cons_zero, List.set_cons_succ, List.set_nil, List.take_nil, List.take_zero, m_f, m_t, r_int, r_bl, r_str, r_non, r_tup, r_lstf, r_lstt, r_v, r_newf, r_newt, List.any_cons, List.any_nil, owned, Bool.or_false, Bool.false_or, fl_bl, fl_int, fl_str, fl_non, fl_rs, exists_eq', Ct.lst.injEq, Ct.ob.injEq, D.kst.injEq, List.take_succ_cons, dat_lst, dat_ob, dat_fz, Option.some.injEq, SV.d.injEq, D.int.injEq, forall_eq', reduceCtorEq, false_implies, forall_const, Bool.false_eq_true, List.set, if_true, if_false, Bool.not_true, Bool.not_false]
        exact tail ps qs P _ _ _
end K03
namespace K03
open PySem L2 PD
theorem ch_eq {a b : Nat} : (ch a == ch b) = decide (a = b) := by
  by_cases h : a = b
  · subst h; simp
  · rw [decide_eq_false h, beq_eq_false_iff_ne]
    intro e
    have := congrArg (fun s : Str => s.cps.toList) e
    simp at this
    exact h this
theorem find_ch {cs : List Nat} (hn : cs.Nodup) {i c : Nat} (h : cs[i]? = some c) : Txt.find (sL cs) (ch c) = (i : Int) := by
  obtain ⟨rest, e⟩ := idx_ch hn h
  unfold Txt.find
  rw [e]
theorem s_good2 {n : Nat} {cs : List Nat} {ws ps : List Int} {rest : Int} {k z} (hc : cs.Nodup) (c3 : 3 ≤ cs.length) (c26 : cs.length ≤ 26) (hL : Lt ws cs.length) (hP : Lt ps cs.length) (hl : ps.length = ws.length) (w8 : ws.length ≤ 8) (g : (dot ws ps - rest) % (cs.length : Int) = 0)
    (h : k (.v (.bl true))) : wpF fnT gcT (n+2) 19 [.str (sL cs), .lst (iL ws), .int rest, .str (sL (wrd cs ps))] k z := by
  have lw : (wrd cs ps).length = ws.length := by simp [wrd, hl]
  unfold wpF
  simp only [f19, b19, tyD, len_sL, len_ints, lw, fnT, startE, List.length_cons, List.length_nil, List.map_cons, List.map_nil, List.cons_append, List.nil_append, Nat.sub_self, Nat.reduceSub, Nat.reduceAdd, Nat.reduceLT, List.replicate_zero, List.reduceReplicate, List.replicate_succ, wpSs, wpS, wpE, wpEs, wpT, wpI, wpC, List.getElem?_cons_zero, List.getElem?_cons_succ, List.getElem?_nil, den, dens, back, true_and, and_true, nrmE, nrmT, frzSlots, cutV1, frzT, frzL, eq_ii, eq_bb, eq_ss, eq_nn, D.isNon, o_add, o_adds, o_addl, o_sub, o_addt, n_split, n_find, o_mul, o_rep, o_div, o_mod, o_pow, c_lt, c_le, c_gt, c_ge, c_lts, c_eq, c_ne, c_is, c_isnot, c_in, c_notin, t_bl, t_non, t_int, t_lst, t_tup, x_lst, x_tup, x_scr, x_str, u_lst, u_scr, u_str, b_lenl, b_lent, b_lenc, b_lens, b_abs, b_max2, b_min2, b_int, b_inb, b_tup, b_srtk, i_lst, i_tup, i_scr, is_n, is_b, exists_eq_left', exists_eq_left, exists_eq_right, Option.some.injEq,  partD, setS, setAll, tgD, tgSlots, wipeE, List.set_cons_zero, List.set_cons_succ, List.set_nil, List.take_nil, List.take_zero, m_f, m_t, r_int, r_bl, r_str, r_non, r_tup, r_lstf, r_lstt, r_v, r_newf, r_newt, List.any_cons, List.any_nil, owned, Bool.or_false, Bool.false_or, fl_bl, fl_int, fl_str, fl_non, fl_rs, exists_eq', Ct.lst.injEq, Ct.ob.injEq, D.kst.injEq, List.take_succ_cons, dat_lst, dat_ob, dat_fz, Option.some.injEq, SV.d.injEq, D.int.injEq, forall_eq', reduceCtorEq, false_implies, forall_const, Bool.false_eq_true, List.set, if_true, if_false, Bool.not_true, Bool.not_false]
  refine ⟨sizeLine_big (by omega), fun q => by simp at q, fun _ => ?_⟩
  simp only [b19_1, fnT, startE, List.length_cons, List.length_nil, List.map_cons, List.map_nil, List.cons_append, List.nil_append, Nat.sub_self, Nat.reduceSub, Nat.reduceAdd, Nat.reduceLT, List.replicate_zero, List.reduceReplicate, List.replicate_succ, wpSs, wpS, wpE, wpEs, wpT, wpI, wpC, List.getElem?_cons_zero, List.getElem?_cons_succ, List.getElem?_nil, den, dens, back, true_and, and_true, nrmE, nrmT, frzSlots, cutV1, frzT, frzL, eq_ii, eq_bb, eq_ss, eq_nn, D.isNon, o_add, o_adds, o_addl, o_sub, o_addt, n_split, n_find, o_mul, o_rep, o_div, o_mod, o_pow, c_lt, c_le, c_gt, c_ge, c_lts, c_eq, c_ne, c_is, c_isnot, c_in, c_notin, t_bl, t_non, t_int, t_lst, t_tup, x_lst, x_tup, x_scr, x_str, u_lst, u_scr, u_str, b_lenl, b_lent, b_lenc, b_lens, b_abs, b_max2, b_min2, b_int, b_inb, b_tup, b_srtk, i_lst, i_tup, i_scr, is_n, is_b, exists_eq_left', exists_eq_left, exists_eq_right, Option.some.injEq,  partD, setS, setAll, tgD, tgSlots, wipeE, List.set_cons_zero, List.set_cons_succ, List.set_nil, List.take_nil, List.take_zero, m_f, m_t, r_int, r_bl, r_str, r_non, r_tup, r_lstf, r_lstt, r_v, r_newf, r_newt, List.any_cons, List.any_nil, owned, Bool.or_false, Bool.false_or, fl_bl, fl_int, fl_str, fl_non, fl_rs, exists_eq', Ct.lst.injEq, Ct.ob.injEq, D.kst.injEq, List.take_succ_cons, dat_lst, dat_ob, dat_fz, Option.some.injEq, SV.d.injEq, D.int.injEq, forall_eq', reduceCtorEq, false_implies, forall_const, Bool.false_eq_true, List.set, if_true, if_false, Bool.not_true, Bool.not_false]
  refine ⟨fun j acc => acc = iL (ps.take j), rfl, ?_, ?_⟩
  · rintro i x acc hx rfl
    have hx2 : ∃ p, ps[i]? = some p ∧ x = .str (ch (cs.getD p.toNat 0)) := by
      unfold wrd at hx
      simp only [List.getElem?_map, Option.map_eq_some_iff] at hx
      obtain ⟨c, ⟨p, e1, rfl⟩, rfl⟩ := hx
      exact ⟨p, e1, rfl⟩
    obtain ⟨p, e1, rfl⟩ := hx2
    have b := hP p (List.mem_of_getElem? e1)
    have e2 : cs[p.toNat]? = some (cs.getD p.toNat 0) := by
      rw [List.getD_eq_getElem?_getD, List.getElem?_eq_getElem (by omega)]; rfl
    have hi := (List.getElem?_eq_some_iff.mp e1).1
    simp only [b19_0, fnT, startE, List.length_cons, List.length_nil, List.map_cons, List.map_nil, List.cons_append, List.nil_append, Nat.sub_self, Nat.reduceSub, Nat.reduceAdd, Nat.reduceLT, List.replicate_zero, List.reduceReplicate, List.replicate_succ, wpSs, wpS, wpE, wpEs, wpT, wpI, wpC, List.getElem?_cons_zero, List.getElem?_cons_succ, List.getElem?_nil, den, dens, back, true_and, and_true, nrmE, nrmT, frzSlots, cutV1, frzT, frzL, eq_ii, eq_bb, eq_ss, eq_nn, D.isNon, o_add, o_adds, o_addl, o_sub, o_addt, n_split, n_find, o_mul, o_rep, o_div, o_mod, o_pow, c_lt, c_le, c_gt, c_ge, c_lts, c_eq, c_ne, c_is, c_isnot, c_in, c_notin, t_bl, t_non, t_int, t_lst, t_tup, x_lst, x_tup, x_scr, x_str, u_lst, u_scr, u_str, b_lenl, b_lent, b_lenc, b_lens, b_abs, b_max2, b_min2, b_int, b_inb, b_tup, b_srtk, i_lst, i_tup, i_scr, is_n, is_b, exists_eq_left', exists_eq_left, exists_eq_right, Option.some.injEq,  partD, setS, setAll, tgD, tgSlots, wipeE, List.set_cons_zero, List.set_cons_succ, List.set_nil, List.take_nil, List.take_zero, m_f, m_t, r_int, r_bl, r_str, r_non, r_tup, r_lstf, r_lstt, r_v, r_newf, r_newt, List.any_cons, List.any_nil, owned, Bool.or_false, Bool.false_or, fl_bl, fl_int, fl_str, fl_non, fl_rs, exists_eq', Ct.lst.injEq, Ct.ob.injEq, D.kst.injEq, List.take_succ_cons, dat_lst, dat_ob, dat_fz, Option.some.injEq, SV.d.injEq, D.int.injEq, forall_eq', reduceCtorEq, false_implies, forall_const, Bool.false_eq_true, List.set, if_true, if_false, Bool.not_true, Bool.not_false]
    refine ⟨sizeLine_lt (by simp; omega), ?_⟩
    rw [find_ch hc e2, List.take_add_one, e1, app_ints]
    have e4 : ((p.toNat : Nat) : Int) = p := by omega
    rw [e4]
    rfl
  · rintro acc rfl
    have e : ((sL (wrd cs ps)).cps.toList.map fun c => D.str ⟨#[c]⟩).length = ps.length := by rw [list_sL]; simp [wrd]
    rw [e, List.take_length]
    refine in_ints ?_
    have no : ¬ (-1 : Int) ∈ ps := fun h => by have := hP _ h; omega
    have no2 : decide (-1 ∈ ps) = false := decide_eq_false no
    rw [no2]
    simp only [fnT, startE, List.length_cons, List.length_nil, List.map_cons, List.map_nil, List.cons_append, List.nil_append, Nat.sub_self, Nat.reduceSub, Nat.reduceAdd, Nat.reduceLT, List.replicate_zero, List.reduceReplicate, List.replicate_succ, wpSs, wpS, wpE, wpEs, wpT, wpI, wpC, List.getElem?_cons_zero, List.getElem?_cons_succ, List.getElem?_nil, den, dens, back, true_and, and_true, nrmE, nrmT, frzSlots, cutV1, frzT, frzL, eq_ii, eq_bb, eq_ss, eq_nn, D.isNon, o_add, o_adds, o_addl, o_sub, o_addt, n_split, n_find, o_mul, o_rep, o_div, o_mod, o_pow, c_lt, c_le, c_gt, c_ge, c_lts, c_eq, c_ne, c_is, c_isnot, c_in, c_notin, t_bl, t_non, t_int, t_lst, t_tup, x_lst, x_tup, x_scr, x_str, u_lst, u_scr, u_str, b_lenl, b_lent, b_lenc, b_lens, b_abs, b_max2, b_min2, b_int, b_inb, b_tup, b_srtk, i_lst, i_tup, i_scr, is_n, is_b, exists_eq_left', exists_eq_left, exists_eq_right, Option.some.injEq,  partD, setS, setAll, tgD, tgSlots, wipeE, List.set_cons_zero, List.set_cons_succ, List.set_nil, List.take_nil, List.take_zero, m_f, m_t, r_int, r_bl, r_str, r_non, r_tup, r_lstf, r_lstt, r_v, r_newf, r_newt, List.any_cons, List.any_nil, owned, Bool.or_false, Bool.false_or, fl_bl, fl_int, fl_str, fl_non, fl_rs, exists_eq', Ct.lst.injEq, Ct.ob.injEq, D.kst.injEq, List.take_succ_cons, dat_lst, dat_ob, dat_fz, Option.some.injEq, SV.d.injEq, D.int.injEq, forall_eq', reduceCtorEq, false_implies, forall_const, Bool.false_eq_true, List.set, if_true, if_false, Bool.not_true, Bool.not_false]
    refine s_lsum (m := cs.length) (by omega) hL hP (by omega) (by omega) ?_
    simp only [len_sL, fnT, startE, List.length_cons, List.length_nil, List.map_cons, List.map_nil, List.cons_append, List.nil_append, Nat.sub_self, Nat.reduceSub, Nat.reduceAdd, Nat.reduceLT, List.replicate_zero, List.reduceReplicate, List.replicate_succ, wpSs, wpS, wpE, wpEs, wpT, wpI, wpC, List.getElem?_cons_zero, List.getElem?_cons_succ, List.getElem?_nil, den, dens, back, true_and, and_true, nrmE, nrmT, frzSlots, cutV1, frzT, frzL, eq_ii, eq_bb, eq_ss, eq_nn, D.isNon, o_add, o_adds, o_addl, o_sub, o_addt, n_split, n_find, o_mul, o_rep, o_div, o_mod, o_pow, c_lt, c_le, c_gt, c_ge, c_lts, c_eq, c_ne, c_is, c_isnot, c_in, c_notin, t_bl, t_non, t_int, t_lst, t_tup, x_lst, x_tup, x_scr, x_str, u_lst, u_scr, u_str, b_lenl, b_lent, b_lenc, b_lens, b_abs, b_max2, b_min2, b_int, b_inb, b_tup, b_srtk, i_lst, i_tup, i_scr, is_n, is_b, exists_eq_left', exists_eq_left, exists_eq_right, Option.some.injEq,  partD, setS, setAll, tgD, tgSlots, wipeE, List.set_cons_zero, List.set_cons_succ, List.set_nil, List.take_nil, List.take_zero, m_f, m_t, r_int, r_bl, r_str, r_non, r_tup, r_lstf, r_lstt, r_v, r_newf, r_newt, List.any_cons, List.any_nil, owned, Bool.or_false, Bool.false_or, fl_bl, fl_int, fl_str, fl_non, fl_rs, exists_eq', Ct.lst.injEq, Ct.ob.injEq, D.kst.injEq, List.take_succ_cons, dat_lst, dat_ob, dat_fz, Option.some.injEq, SV.d.injEq, D.int.injEq, forall_eq', reduceCtorEq, false_implies, forall_const, Bool.false_eq_true, List.set, if_true, if_false, Bool.not_true, Bool.not_false]
    refine ⟨sizeLine_big (by omega), by omega, ?_⟩
    rw [g]
    exact h
/-- the unlike places -/
theorem s_one {n : Nat} {A B : List Nat} {k z} (hl : A.length = B.length) (h8 : A.length ≤ 8) (h : k (.v (.bl true)))
    (hone : (∃ i, i < A.length ∧ ∀ j, A[j]? ≠ B[j]? ↔ j = i) ∨ ∃ i, i + 1 < A.length ∧ (∀ j, A[j]? ≠ B[j]? ↔ (j = i ∨ j = i + 1)) ∧ A[i]? = B[i + 1]? ∧ A[i + 1]? = B[i]?) :
    wpF fnT gcT (n+1) 20 [.str (sL A), .str (sL B)] k z := by
  have gA : ∀ j, j < A.length → ∃ a, A[j]? = some a ∧ atI (sL A).cps.toList (j : Int) = some a := fun j hj => ⟨_, List.getElem?_eq_getElem hj, by rw [list_sL]; exact getl (List.getElem?_eq_getElem hj)⟩
  have gB : ∀ j, j < A.length → ∃ a, B[j]? = some a ∧ atI (sL B).cps.toList (j : Int) = some a := fun j hj => ⟨_, List.getElem?_eq_getElem (by omega), by rw [list_sL]; exact getl (List.getElem?_eq_getElem (by omega))⟩
  unfold wpF
  simp only [f20, b20, len_sL, fnT, startE, List.length_cons, List.length_nil, List.map_cons, List.map_nil, List.cons_append, List.nil_append, Nat.sub_self, Nat.reduceSub, Nat.reduceAdd, Nat.reduceLT, List.replicate_zero, List.reduceReplicate, List.replicate_succ, wpSs, wpS, wpE, wpEs, wpT, wpI, wpC, List.getElem?_cons_zero, List.getElem?_cons_succ, List.getElem?_nil, den, dens, back, true_and, and_true, nrmE, nrmT, frzSlots, cutV1, frzT, frzL, eq_ii, eq_bb, eq_ss, eq_nn, D.isNon, o_add, o_adds, o_addl, o_sub, o_addt, n_split, n_find, o_mul, o_rep, o_div, o_mod, o_pow, c_lt, c_le, c_gt, c_ge, c_lts, c_eq, c_ne, c_is, c_isnot, c_in, c_notin, t_bl, t_non, t_int, t_lst, t_tup, x_lst, x_tup, x_scr, x_str, u_lst, u_scr, u_str, b_lenl, b_lent, b_lenc, b_lens, b_abs, b_max2, b_min2, b_int, b_inb, b_tup, b_srtk, i_lst, i_tup, i_scr, is_n, is_b, exists_eq_left', exists_eq_left, exists_eq_right, Option.some.injEq,  partD, setS, setAll, tgD, tgSlots, wipeE, List.set_cons_zero, List.set_cons_succ, List.set_nil, List.take_nil, List.take_zero, m_f, m_t, r_int, r_bl, r_str, r_non, r_tup, r_lstf, r_lstt, r_v, r_newf, r_newt, List.any_cons, List.any_nil, owned, Bool.or_false, Bool.false_or, fl_bl, fl_int, fl_str, fl_non, fl_rs, exists_eq', Ct.lst.injEq, Ct.ob.injEq, D.kst.injEq, List.take_succ_cons, dat_lst, dat_ob, dat_fz, Option.some.injEq, SV.d.injEq, D.int.injEq, forall_eq', reduceCtorEq, false_implies, forall_const, Bool.false_eq_true, List.set, if_true, if_false, Bool.not_true, Bool.not_false]
  refine ⟨sizeLine_big (by omega), by omega, by omega, ?_⟩
  rcases hone with ⟨i, hi, hj⟩ | ⟨i, hi, hj, x1, x2⟩
  · refine ⟨fun j acc => acc = if i < j then [.int (i : Int)] else [], (if_neg (by omega)).symm, ?_, ?_⟩
    · rintro j x acc hx rfl
      obtain ⟨hjn, rfl⟩ := rng_it hx
      rw [Int.toNat_natCast] at hjn
      obtain ⟨a, ea, a1⟩ := gA j hjn
      obtain ⟨b, eb, b1⟩ := gB j hjn
      simp only [b20_0, b20_1, fnT, startE, List.length_cons, List.length_nil, List.map_cons, List.map_nil, List.cons_append, List.nil_append, Nat.sub_self, Nat.reduceSub, Nat.reduceAdd, Nat.reduceLT, List.replicate_zero, List.reduceReplicate, List.replicate_succ, wpSs, wpS, wpE, wpEs, wpT, wpI, wpC, List.getElem?_cons_zero, List.getElem?_cons_succ, List.getElem?_nil, den, dens, back, true_and, and_true, nrmE, nrmT, frzSlots, cutV1, frzT, frzL, eq_ii, eq_bb, eq_ss, eq_nn, D.isNon, o_add, o_adds, o_addl, o_sub, o_addt, n_split, n_find, o_mul, o_rep, o_div, o_mod, o_pow, c_lt, c_le, c_gt, c_ge, c_lts, c_eq, c_ne, c_is, c_isnot, c_in, c_notin, t_bl, t_non, t_int, t_lst, t_tup, x_lst, x_tup, x_scr, x_str, u_lst, u_scr, u_str, b_lenl, b_lent, b_lenc, b_lens, b_abs, b_max2, b_min2, b_int, b_inb, b_tup, b_srtk, i_lst, i_tup, i_scr, is_n, is_b, exists_eq_left', exists_eq_left, exists_eq_right, Option.some.injEq,  partD, setS, setAll, tgD, tgSlots, wipeE, List.set_cons_zero, List.set_cons_succ, List.set_nil, List.take_nil, List.take_zero, m_f, m_t, r_int, r_bl, r_str, r_non, r_tup, r_lstf, r_lstt, r_v, r_newf, r_newt, List.any_cons, List.any_nil, owned, Bool.or_false, Bool.false_or, fl_bl, fl_int, fl_str, fl_non, fl_rs, exists_eq', Ct.lst.injEq, Ct.ob.injEq, D.kst.injEq, List.take_succ_cons, dat_lst, dat_ob, dat_fz, Option.some.injEq, SV.d.injEq, D.int.injEq, forall_eq', reduceCtorEq, false_implies, forall_const, Bool.false_eq_true, List.set, if_true, if_false, Bool.not_true, Bool.not_false]
      refine ⟨_, sizeLine_big (by rw [len_sL]; omega), a1, _, sizeLine_big (by rw [len_sL]; omega), b1, ?_⟩
      simp only [ch_eq, fnT, startE, List.length_cons, List.length_nil, List.map_cons, List.map_nil, List.cons_append, List.nil_append, Nat.sub_self, Nat.reduceSub, Nat.reduceAdd, Nat.reduceLT, List.replicate_zero, List.reduceReplicate, List.replicate_succ, wpSs, wpS, wpE, wpEs, wpT, wpI, wpC, List.getElem?_cons_zero, List.getElem?_cons_succ, List.getElem?_nil, den, dens, back, true_and, and_true, nrmE, nrmT, frzSlots, cutV1, frzT, frzL, eq_ii, eq_bb, eq_ss, eq_nn, D.isNon, o_add, o_adds, o_addl, o_sub, o_addt, n_split, n_find, o_mul, o_rep, o_div, o_mod, o_pow, c_lt, c_le, c_gt, c_ge, c_lts, c_eq, c_ne, c_is, c_isnot, c_in, c_notin, t_bl, t_non, t_int, t_lst, t_tup, x_lst, x_tup, x_scr, x_str, u_lst, u_scr, u_str, b_lenl, b_lent, b_lenc, b_lens, b_abs, b_max2, b_min2, b_int, b_inb, b_tup, b_srtk, i_lst, i_tup, i_scr, is_n, is_b, exists_eq_left', exists_eq_left, exists_eq_right, Option.some.injEq,  partD, setS, setAll, tgD, tgSlots, wipeE, List.set_cons_zero, List.set_cons_succ, List.set_nil, List.take_nil, List.take_zero, m_f, m_t, r_int, r_bl, r_str, r_non, r_tup, r_lstf, r_lstt, r_v, r_newf, r_newt, List.any_cons, List.any_nil, owned, Bool.or_false, Bool.false_or, fl_bl, fl_int, fl_str, fl_non, fl_rs, exists_eq', Ct.lst.injEq, Ct.ob.injEq, D.kst.injEq, List.take_succ_cons, dat_lst, dat_ob, dat_fz, Option.some.injEq, SV.d.injEq, D.int.injEq, forall_eq', reduceCtorEq, false_implies, forall_const, Bool.false_eq_true, List.set, if_true, if_false, Bool.not_true, Bool.not_false]
      have un : a = b ↔ ¬ j = i := by
        have := hj j
        rw [ea, eb] at this
        constructor
        · intro e q; exact this.mpr q (by rw [e])
        · intro q
          by_cases e : a = b
          · exact e
          · exact absurd (this.mp (fun z => e (Option.some.inj z))) q
      refine ⟨fun q => ?_, fun q => ?_⟩
      · have q : ¬ a = b := by simpa using q
        have e : j = i := by
          by_cases e : j = i
          · exact e
          · exact absurd (un.mpr e) q
        subst e
        rw [if_neg (Nat.lt_irrefl _), if_pos (Nat.lt_succ_self _)]
        exact ⟨sizeLine_lt (by simp), rfl⟩
      · have q : a = b := by simpa using q
        have e := un.mp q
        by_cases c : i < j
        · rw [if_pos c, if_pos (by omega)]
        · rw [if_neg c, if_neg (by omega)]
    · rintro acc rfl
      rw [rng_len, Int.toNat_natCast, if_pos hi]
      simp only [fnT, startE, List.length_cons, List.length_nil, List.map_cons, List.map_nil, List.cons_append, List.nil_append, Nat.sub_self, Nat.reduceSub, Nat.reduceAdd, Nat.reduceLT, List.replicate_zero, List.reduceReplicate, List.replicate_succ, wpSs, wpS, wpE, wpEs, wpT, wpI, wpC, List.getElem?_cons_zero, List.getElem?_cons_succ, List.getElem?_nil, den, dens, back, true_and, and_true, nrmE, nrmT, frzSlots, cutV1, frzT, frzL, eq_ii, eq_bb, eq_ss, eq_nn, D.isNon, o_add, o_adds, o_addl, o_sub, o_addt, n_split, n_find, o_mul, o_rep, o_div, o_mod, o_pow, c_lt, c_le, c_gt, c_ge, c_lts, c_eq, c_ne, c_is, c_isnot, c_in, c_notin, t_bl, t_non, t_int, t_lst, t_tup, x_lst, x_tup, x_scr, x_str, u_lst, u_scr, u_str, b_lenl, b_lent, b_lenc, b_lens, b_abs, b_max2, b_min2, b_int, b_inb, b_tup, b_srtk, i_lst, i_tup, i_scr, is_n, is_b, exists_eq_left', exists_eq_left, exists_eq_right, Option.some.injEq,  partD, setS, setAll, tgD, tgSlots, wipeE, List.set_cons_zero, List.set_cons_succ, List.set_nil, List.take_nil, List.take_zero, m_f, m_t, r_int, r_bl, r_str, r_non, r_tup, r_lstf, r_lstt, r_v, r_newf, r_newt, List.any_cons, List.any_nil, owned, Bool.or_false, Bool.false_or, fl_bl, fl_int, fl_str, fl_non, fl_rs, exists_eq', Ct.lst.injEq, Ct.ob.injEq, D.kst.injEq, List.take_succ_cons, dat_lst, dat_ob, dat_fz, Option.some.injEq, SV.d.injEq, D.int.injEq, forall_eq', reduceCtorEq, false_implies, forall_const, Bool.false_eq_true, List.set, if_true, if_false, Bool.not_true, Bool.not_false]
      exact ⟨fun _ => h, fun q => by simp at q⟩
  · refine ⟨fun j acc => acc = if i + 1 < j then [.int (i : Int), .int ((i + 1 : Nat) : Int)] else if i < j then [.int (i : Int)] else [], ((if_neg (by omega)).trans (if_neg (by omega))).symm, ?_, ?_⟩
    · rintro j x acc hx rfl
      obtain ⟨hjn, rfl⟩ := rng_it hx
      rw [Int.toNat_natCast] at hjn
      obtain ⟨a, ea, a1⟩ := gA j hjn
      obtain ⟨b, eb, b1⟩ := gB j hjn
      simp only [b20_0, b20_1, fnT, startE, List.length_cons, List.length_nil, List.map_cons, List.map_nil, List.cons_append, List.nil_append, Nat.sub_self, Nat.reduceSub, Nat.reduceAdd, Nat.reduceLT, List.replicate_zero, List.reduceReplicate, List.replicate_succ, wpSs, wpS, wpE, wpEs, wpT, wpI, wpC, List.getElem?_cons_zero, List.getElem?_cons_succ, List.getElem?_nil, den, dens, back, true_and, and_true, nrmE, nrmT, frzSlots, cutV1, frzT, frzL, eq_ii, eq_bb, eq_ss, eq_nn, D.isNon, o_add, o_adds, o_addl, o_sub, o_addt, n_split, n_find, o_mul, o_rep, o_div, o_mod, o_pow, c_lt, c_le, c_gt, c_ge, c_lts, c_eq, c_ne, c_is, c_isnot, c_in, c_notin, t_bl, t_non, t_int, t_lst, t_tup, x_lst, x_tup, x_scr, x_str, u_lst, u_scr, u_str, b_lenl, b_lent, b_lenc, b_lens, b_abs, b_max2, b_min2, b_int, b_inb, b_tup, b_srtk, i_lst, i_tup, i_scr, is_n, is_b, exists_eq_left', exists_eq_left, exists_eq_right, Option.some.injEq,  partD, setS, setAll, tgD, tgSlots, wipeE, List.set_cons_zero, List.set_cons_succ, List.set_nil, List.take_nil, List.take_zero, m_f, m_t, r_int, r_bl, r_str, r_non, r_tup, r_lstf, r_lstt, r_v, r_newf, r_newt, List.any_cons, List.any_nil, owned, Bool.or_false, Bool.false_or, fl_bl, fl_int, fl_str, fl_non, fl_rs, exists_eq', Ct.lst.injEq, Ct.ob.injEq, D.kst.injEq, List.take_succ_cons, dat_lst, dat_ob, dat_fz, Option.some.injEq, SV.d.injEq, D.int.injEq, forall_eq', reduceCtorEq, false_implies, forall_const, Bool.false_eq_true, List.set, if_true, if_false, Bool.not_true, Bool.not_false]
      refine ⟨_, sizeLine_big (by rw [len_sL]; omega), a1, _, sizeLine_big (by rw [len_sL]; omega), b1, ?_⟩
      simp only [ch_eq, fnT, startE, List.length_cons, List.length_nil, List.map_cons, List.map_nil, List.cons_append, List.nil_append, Nat.sub_self, Nat.reduceSub, Nat.reduceAdd, Nat.reduceLT, List.replicate_zero, List.reduceReplicate, List.replicate_succ, wpSs, wpS, wpE, wpEs, wpT, wpI, wpC, List.getElem?_cons_zero, List.getElem?_cons_succ, List.getElem?_nil, den, dens, back, true_and, and_true, nrmE, nrmT, frzSlots, cutV1, frzT, frzL, eq_ii, eq_bb, eq_ss, eq_nn, D.isNon, o_add, o_adds, o_addl, o_sub, o_addt, n_split, n_find, o_mul, o_rep, o_div, o_mod, o_pow, c_lt, c_le, c_gt, c_ge, c_lts, c_eq, c_ne, c_is, c_isnot, c_in, c_notin, t_bl, t_non, t_int, t_lst, t_tup, x_lst, x_tup, x_scr, x_str, u_lst, u_scr, u_str, b_lenl, b_lent, b_lenc, b_lens, b_abs, b_max2, b_min2, b_int, b_inb, b_tup, b_srtk, i_lst, i_tup, i_scr, is_n, is_b, exists_eq_left', exists_eq_left, exists_eq_right, Option.some.injEq,  partD, setS, setAll, tgD, tgSlots, wipeE, List.set_cons_zero, List.set_cons_succ, List.set_nil, List.take_nil, List.take_zero, m_f, m_t, r_int, r_bl, r_str, r_non, r_tup, r_lstf, r_lstt, r_v, r_newf, r_newt, List.any_cons, List.any_nil, owned, Bool.or_false, Bool.false_or, fl_bl, fl_int, fl_str, fl_non, fl_rs, exists_eq', Ct.lst.injEq, Ct.ob.injEq, D.kst.injEq, List.take_succ_cons, dat_lst, dat_ob, dat_fz, Option.some.injEq, SV.d.injEq, D.int.injEq, forall_eq', reduceCtorEq, false_implies, forall_const, Bool.false_eq_true, List.set, if_true, if_false, Bool.not_true, Bool.not_false]
      have un : a = b ↔ ¬ (j = i ∨ j = i + 1) := by
        have := hj j
        rw [ea, eb] at this
        constructor
        · intro e q; exact this.mpr q (by rw [e])
        · intro q
          by_cases e : a = b
          · exact e
          · exact absurd (this.mp (fun z => e (Option.some.inj z))) q
      refine ⟨fun q => ?_, fun q => ?_⟩
      · have q : ¬ a = b := by simpa using q
        have e : j = i ∨ j = i + 1 := by
          by_cases e : j = i ∨ j = i + 1
          · exact e
          · exact absurd (un.mpr e) q
        rcases e with e | e
        · subst e
          rw [if_neg (by omega), if_neg (by omega), if_neg (by omega), if_pos (by omega)]
          exact ⟨sizeLine_lt (by simp), rfl⟩
        · subst e
          rw [if_neg (by omega), if_pos (by omega), if_pos (by omega)]
          exact ⟨sizeLine_lt (by simp), rfl⟩
      · have q : a = b := by simpa using q
        have e := un.mp q
        by_cases c : i + 1 < j
        · rw [if_pos c, if_pos (by omega)]
        · by_cases c2 : i < j
          · omega
          · rw [if_neg c, if_neg c2, if_neg (by omega), if_neg (by omega)]
    · rintro acc rfl
      rw [rng_len, Int.toNat_natCast, if_pos hi]
      have u0 : atI [D.int (i : Int), D.int ((i + 1 : Nat) : Int)] 0 = some (.int (i : Int)) := getl (i := 0) rfl
      have u1 : atI [D.int (i : Int), D.int ((i + 1 : Nat) : Int)] 1 = some (.int ((i + 1 : Nat) : Int)) := getl (i := 1) rfl
      obtain ⟨a, ea, a1⟩ := gA i (by omega)
      obtain ⟨b, eb, b1⟩ := gB i (by omega)
      obtain ⟨a', ea', a1'⟩ := gA (i + 1) hi
      obtain ⟨b', eb', b1'⟩ := gB (i + 1) hi
      have y1 : a = b' := by rw [ea, eb'] at x1; exact Option.some.inj x1
      have y2 : a' = b := by rw [ea', eb] at x2; exact Option.some.inj x2
      subst y1; subst y2
      have ci : (((i + 1 : Nat) : Int) == (i : Int) + 1) = true := by simp
      simp only [u0, u1, fnT, startE, List.length_cons, List.length_nil, List.map_cons, List.map_nil, List.cons_append, List.nil_append, Nat.sub_self, Nat.reduceSub, Nat.reduceAdd, Nat.reduceLT, List.replicate_zero, List.reduceReplicate, List.replicate_succ, wpSs, wpS, wpE, wpEs, wpT, wpI, wpC, List.getElem?_cons_zero, List.getElem?_cons_succ, List.getElem?_nil, den, dens, back, true_and, and_true, nrmE, nrmT, frzSlots, cutV1, frzT, frzL, eq_ii, eq_bb, eq_ss, eq_nn, D.isNon, o_add, o_adds, o_addl, o_sub, o_addt, n_split, n_find, o_mul, o_rep, o_div, o_mod, o_pow, c_lt, c_le, c_gt, c_ge, c_lts, c_eq, c_ne, c_is, c_isnot, c_in, c_notin, t_bl, t_non, t_int, t_lst, t_tup, x_lst, x_tup, x_scr, x_str, u_lst, u_scr, u_str, b_lenl, b_lent, b_lenc, b_lens, b_abs, b_max2, b_min2, b_int, b_inb, b_tup, b_srtk, i_lst, i_tup, i_scr, is_n, is_b, exists_eq_left', exists_eq_left, exists_eq_right, Option.some.injEq,  partD, setS, setAll, tgD, tgSlots, wipeE, List.set_cons_zero, List.set_cons_succ, List.set_nil, List.take_nil, List.take_zero, m_f, m_t, r_int, r_bl, r_str, r_non, r_tup, r_lstf, r_lstt, r_v, r_newf, r_newt, List.any_cons, List.any_nil, owned, Bool.or_false, Bool.false_or, fl_bl, fl_int, fl_str, fl_non, fl_rs, exists_eq', Ct.lst.injEq, Ct.ob.injEq, D.kst.injEq, List.take_succ_cons, dat_lst, dat_ob, dat_fz, Option.some.injEq, SV.d.injEq, D.int.injEq, forall_eq', reduceCtorEq, false_implies, forall_const, Bool.false_eq_true, List.set, if_true, if_false, Bool.not_true, Bool.not_false]
      refine ⟨fun q => absurd q (by decide), fun _ => ⟨fun q => absurd q (by decide), fun _ => ⟨fun q => by rw [ci] at q; simp at q, fun _ => ⟨a, sizeLine_big (by rw [len_sL]; omega), a1, a, sizeLine_big (by rw [len_sL]; omega), b1', ?_⟩⟩⟩⟩
      simp only [ch_eq, fnT, startE, List.length_cons, List.length_nil, List.map_cons, List.map_nil, List.cons_append, List.nil_append, Nat.sub_self, Nat.reduceSub, Nat.reduceAdd, Nat.reduceLT, List.replicate_zero, List.reduceReplicate, List.replicate_succ, wpSs, wpS, wpE, wpEs, wpT, wpI, wpC, List.getElem?_cons_zero, List.getElem?_cons_succ, List.getElem?_nil, den, dens, back, true_and, and_true, nrmE, nrmT, frzSlots, cutV1, frzT, frzL, eq_ii, eq_bb, eq_ss, eq_nn, D.isNon, o_add, o_adds, o_addl, o_sub, o_addt, n_split, n_find, o_mul, o_rep, o_div, o_mod, o_pow, c_lt, c_le, c_gt, c_ge, c_lts, c_eq, c_ne, c_is, c_isnot, c_in, c_notin, t_bl, t_non, t_int, t_lst, t_tup, x_lst, x_tup, x_scr, x_str, u_lst, u_scr, u_str, b_lenl, b_lent, b_lenc, b_lens, b_abs, b_max2, b_min2, b_int, b_inb, b_tup, b_srtk, i_lst, i_tup, i_scr, is_n, is_b, exists_eq_left', exists_eq_left, exists_eq_right, Option.some.injEq,  partD, setS, setAll, tgD, tgSlots, wipeE, List.set_cons_zero, List.set_cons_succ, List.set_nil, List.take_nil, List.take_zero, m_f, m_t, r_int, r_bl, r_str, r_non, r_tup, r_lstf, r_lstt, r_v, r_newf, r_newt, List.any_cons, List.any_nil, owned, Bool.or_false, Bool.false_or, fl_bl, fl_int, fl_str, fl_non, fl_rs, exists_eq', Ct.lst.injEq, Ct.ob.injEq, D.kst.injEq, List.take_succ_cons, dat_lst, dat_ob, dat_fz, Option.some.injEq, SV.d.injEq, D.int.injEq, forall_eq', reduceCtorEq, false_implies, forall_const, Bool.false_eq_true, List.set, if_true, if_false, Bool.not_true, Bool.not_false]
      refine ⟨fun _ => ⟨a', sizeLine_big (by rw [len_sL]; omega), a1', a', sizeLine_big (by rw [len_sL]; omega), b1, ?_⟩, fun q => by simp at q⟩
      simp only [ch_eq, fnT, startE, List.length_cons, List.length_nil, List.map_cons, List.map_nil, List.cons_append, List.nil_append, Nat.sub_self, Nat.reduceSub, Nat.reduceAdd, Nat.reduceLT, List.replicate_zero, List.reduceReplicate, List.replicate_succ, wpSs, wpS, wpE, wpEs, wpT, wpI, wpC, List.getElem?_cons_zero, List.getElem?_cons_succ, List.getElem?_nil, den, dens, back, true_and, and_true, nrmE, nrmT, frzSlots, cutV1, frzT, frzL, eq_ii, eq_bb, eq_ss, eq_nn, D.isNon, o_add, o_adds, o_addl, o_sub, o_addt, n_split, n_find, o_mul, o_rep, o_div, o_mod, o_pow, c_lt, c_le, c_gt, c_ge, c_lts, c_eq, c_ne, c_is, c_isnot, c_in, c_notin, t_bl, t_non, t_int, t_lst, t_tup, x_lst, x_tup, x_scr, x_str, u_lst, u_scr, u_str, b_lenl, b_lent, b_lenc, b_lens, b_abs, b_max2, b_min2, b_int, b_inb, b_tup, b_srtk, i_lst, i_tup, i_scr, is_n, is_b, exists_eq_left', exists_eq_left, exists_eq_right, Option.some.injEq,  partD, setS, setAll, tgD, tgSlots, wipeE, List.set_cons_zero, List.set_cons_succ, List.set_nil, List.take_nil, List.take_zero, m_f, m_t, r_int, r_bl, r_str, r_non, r_tup, r_lstf, r_lstt, r_v, r_newf, r_newt, List.any_cons, List.any_nil, owned, Bool.or_false, Bool.false_or, fl_bl, fl_int, fl_str, fl_non, fl_rs, exists_eq', Ct.lst.injEq, Ct.ob.injEq, D.kst.injEq, List.take_succ_cons, dat_lst, dat_ob, dat_fz, Option.some.injEq, SV.d.injEq, D.int.injEq, forall_eq', reduceCtorEq, false_implies, forall_const, Bool.false_eq_true, List.set, if_true, if_false, Bool.not_true, Bool.not_false]
      simpa using h
end K03

namespace K03
open PySem L2 PD
theorem wrd_at {cs : List Nat} {ps : List Int} (hP : Lt ps cs.length) {j : Nat} : (wrd cs ps)[j]? = (ps[j]?).bind fun p => cs[p.toNat]? := by
  unfold wrd
  rw [List.getElem?_map]
  cases h : ps[j]? with
  | none => rfl
  | some p =>
    have b := hP p (List.mem_of_getElem? h)
    show some (cs.getD p.toNat 0) = cs[p.toNat]?
    rw [List.getD_eq_getElem?_getD, List.getElem?_eq_getElem (by omega)]
    rfl
theorem wrd_eq {cs : List Nat} {ps qs : List Int} (hc : cs.Nodup) (hP : Lt ps cs.length) (hQ : Lt qs cs.length) {i j : Nat} : (wrd cs ps)[i]? = (wrd cs qs)[j]? ↔ ps[i]? = qs[j]? := by
  rw [wrd_at hP, wrd_at hQ]
  cases h1 : ps[i]? with
  | none =>
    cases h2 : qs[j]? with
    | none => simp
    | some q =>
      have b := hQ q (List.mem_of_getElem? h2)
      have : cs[q.toNat]? = some cs[q.toNat] := List.getElem?_eq_getElem (by omega)
      simp [this]
  | some p =>
    have b := hP p (List.mem_of_getElem? h1)
    have e1 : cs[p.toNat]? = some cs[p.toNat] := List.getElem?_eq_getElem (by omega)
    cases h2 : qs[j]? with
    | none => simp [e1]
    | some q =>
      have b2 := hQ q (List.mem_of_getElem? h2)
      have e2 : cs[q.toNat]? = some cs[q.toNat] := List.getElem?_eq_getElem (by omega)
      constructor
      · intro e
        have e : cs[p.toNat]? = cs[q.toNat]? := e
        rw [e1] at e
        have := nodup_at hc e1 e.symm
        congr 1
        omega
      · intro e
        cases e
        rfl
theorem s_check {n : Nat} {ns : List Int} {cs : List Nat} {ws : List Int} {rest : Int} {i : Nat} {K : Ko} (hc : cs.Nodup) (c3 : 3 ≤ cs.length) (c26 : cs.length ≤ 26) (w3 : 3 ≤ ws.length) (w8 : ws.length ≤ 8) (hL : Lt ws cs.length) (r0 : 0 ≤ rest) (r1 : rest < cs.length) {x6 x7 : Option SV}
    (h : ∀ x6 x7 : D, K.nx [some (SV.d (D.scr ns)), some (SV.d (D.int (i : Int))), some (SV.d (D.str (sL cs))), some (SV.d (D.int (cs.length : Int))), some (SV.d (D.lst (iL ws))), some (SV.d (D.int rest)), some (SV.d x6), some (SV.d x7)] []) :
    wpSs (wpF fnT gcT (n + 4)) gcT b21_3 [some (SV.d (D.scr ns)), some (SV.d (D.int (i : Int))), some (SV.d (D.str (sL cs))), some (SV.d (D.int (cs.length : Int))), some (SV.d (D.lst (iL ws))), some (SV.d (D.int rest)), x6, x7] [] K := by
  have fin : ∀ x6 x7 : D, K.nx [some (SV.d (D.scr ns)), some (SV.d (D.int (i : Int))), some (SV.d (D.str (sL cs))), some (SV.d (D.int (cs.length : Int))), some (SV.d (D.lst (iL ws))), some (SV.d (D.int rest)), some (SV.d x6), some (SV.d x7)] [] := h
  simp only [b21_3, fnT, startE, List.length_cons, List.length_nil, List.map_cons, List.map_nil, List.cons_append, List.nil_append, Nat.sub_self, Nat.reduceSub, Nat.reduceAdd, Nat.reduceLT, List.replicate_zero, List.reduceReplicate, List.replicate_succ, wpSs, wpS, wpE, wpEs, wpT, wpI, wpC, List.getElem?_cons_zero, List.getElem?_cons_succ, List.getElem?_nil, den, dens, back, true_and, and_true, nrmE, nrmT, frzSlots, cutV1, frzT, frzL, eq_ii, eq_bb, eq_ss, eq_nn, D.isNon, o_add, o_adds, o_addl, o_sub, o_addt, n_split, n_find, o_mul, o_rep, o_div, o_mod, o_pow, c_lt, c_le, c_gt, c_ge, c_lts, c_eq, c_ne, c_is, c_isnot, c_in, c_notin, t_bl, t_non, t_int, t_lst, t_tup, x_lst, x_tup, x_scr, x_str, u_lst, u_scr, u_str, b_lenl, b_lent, b_lenc, b_lens, b_abs, b_max2, b_min2, b_int, b_inb, b_tup, b_srtk, i_lst, i_tup, i_scr, is_n, is_b, exists_eq_left', exists_eq_left, exists_eq_right, Option.some.injEq,  partD, setS, setAll, tgD, tgSlots, wipeE, List.set_cons_zero, List.set_cons_succ, List.set_nil, List.take_nil, List.take_zero, m_f, m_t, r_int, r_bl, r_str, r_non, r_tup, r_lstf, r_lstt, r_v, r_newf, r_newt, List.any_cons, List.any_nil, owned, Bool.or_false, Bool.false_or, fl_bl, fl_int, fl_str, fl_non, fl_rs, exists_eq', Ct.lst.injEq, Ct.ob.injEq, D.kst.injEq, List.take_succ_cons, dat_lst, dat_ob, dat_fz, Option.some.injEq, SV.d.injEq, D.int.injEq, forall_eq', reduceCtorEq, false_implies, forall_const, Bool.false_eq_true, List.set, if_true, if_false, Bool.not_true, Bool.not_false]
  have gp := gl_pos (m := (cs.length : Int)) (by omega) (ws := ws)
  refine s_unsafe (n := n) hc c3 c26 hL w3 w8 (fun hS => ?_) (fun nd => ?_) (fun nS ps qs P => ?_)
  · simp only [fnT, startE, List.length_cons, List.length_nil, List.map_cons, List.map_nil, List.cons_append, List.nil_append, Nat.sub_self, Nat.reduceSub, Nat.reduceAdd, Nat.reduceLT, List.replicate_zero, List.reduceReplicate, List.replicate_succ, wpSs, wpS, wpE, wpEs, wpT, wpI, wpC, List.getElem?_cons_zero, List.getElem?_cons_succ, List.getElem?_nil, den, dens, back, true_and, and_true, nrmE, nrmT, frzSlots, cutV1, frzT, frzL, eq_ii, eq_bb, eq_ss, eq_nn, D.isNon, o_add, o_adds, o_addl, o_sub, o_addt, n_split, n_find, o_mul, o_rep, o_div, o_mod, o_pow, c_lt, c_le, c_gt, c_ge, c_lts, c_eq, c_ne, c_is, c_isnot, c_in, c_notin, t_bl, t_non, t_int, t_lst, t_tup, x_lst, x_tup, x_scr, x_str, u_lst, u_scr, u_str, b_lenl, b_lent, b_lenc, b_lens, b_abs, b_max2, b_min2, b_int, b_inb, b_tup, b_srtk, i_lst, i_tup, i_scr, is_n, is_b, exists_eq_left', exists_eq_left, exists_eq_right, Option.some.injEq,  partD, setS, setAll, tgD, tgSlots, wipeE, List.set_cons_zero, List.set_cons_succ, List.set_nil, List.take_nil, List.take_zero, m_f, m_t, r_int, r_bl, r_str, r_non, r_tup, r_lstf, r_lstt, r_v, r_newf, r_newt, List.any_cons, List.any_nil, owned, Bool.or_false, Bool.false_or, fl_bl, fl_int, fl_str, fl_non, fl_rs, exists_eq', Ct.lst.injEq, Ct.ob.injEq, D.kst.injEq, List.take_succ_cons, dat_lst, dat_ob, dat_fz, Option.some.injEq, SV.d.injEq, D.int.injEq, forall_eq', reduceCtorEq, false_implies, forall_const, Bool.false_eq_true, List.set, if_true, if_false, Bool.not_true, Bool.not_false]
    refine eq_ints ⟨fun q => by simp at q, fun _ => ?_⟩
    simp only [b21_2, fnT, startE, List.length_cons, List.length_nil, List.map_cons, List.map_nil, List.cons_append, List.nil_append, Nat.sub_self, Nat.reduceSub, Nat.reduceAdd, Nat.reduceLT, List.replicate_zero, List.reduceReplicate, List.replicate_succ, wpSs, wpS, wpE, wpEs, wpT, wpI, wpC, List.getElem?_cons_zero, List.getElem?_cons_succ, List.getElem?_nil, den, dens, back, true_and, and_true, nrmE, nrmT, frzSlots, cutV1, frzT, frzL, eq_ii, eq_bb, eq_ss, eq_nn, D.isNon, o_add, o_adds, o_addl, o_sub, o_addt, n_split, n_find, o_mul, o_rep, o_div, o_mod, o_pow, c_lt, c_le, c_gt, c_ge, c_lts, c_eq, c_ne, c_is, c_isnot, c_in, c_notin, t_bl, t_non, t_int, t_lst, t_tup, x_lst, x_tup, x_scr, x_str, u_lst, u_scr, u_str, b_lenl, b_lent, b_lenc, b_lens, b_abs, b_max2, b_min2, b_int, b_inb, b_tup, b_srtk, i_lst, i_tup, i_scr, is_n, is_b, exists_eq_left', exists_eq_left, exists_eq_right, Option.some.injEq,  partD, setS, setAll, tgD, tgSlots, wipeE, List.set_cons_zero, List.set_cons_succ, List.set_nil, List.take_nil, List.take_zero, m_f, m_t, r_int, r_bl, r_str, r_non, r_tup, r_lstf, r_lstt, r_v, r_newf, r_newt, List.any_cons, List.any_nil, owned, Bool.or_false, Bool.false_or, fl_bl, fl_int, fl_str, fl_non, fl_rs, exists_eq', Ct.lst.injEq, Ct.ob.injEq, D.kst.injEq, List.take_succ_cons, dat_lst, dat_ob, dat_fz, Option.some.injEq, SV.d.injEq, D.int.injEq, forall_eq', reduceCtorEq, false_implies, forall_const, Bool.false_eq_true, List.set, if_true, if_false, Bool.not_true, Bool.not_false]
    refine s_lsafe (n := n + 1) (by omega) (by omega) ?_
    rw [safeB_iff.mpr hS]
    simp only [fnT, startE, List.length_cons, List.length_nil, List.map_cons, List.map_nil, List.cons_append, List.nil_append, Nat.sub_self, Nat.reduceSub, Nat.reduceAdd, Nat.reduceLT, List.replicate_zero, List.reduceReplicate, List.replicate_succ, wpSs, wpS, wpE, wpEs, wpT, wpI, wpC, List.getElem?_cons_zero, List.getElem?_cons_succ, List.getElem?_nil, den, dens, back, true_and, and_true, nrmE, nrmT, frzSlots, cutV1, frzT, frzL, eq_ii, eq_bb, eq_ss, eq_nn, D.isNon, o_add, o_adds, o_addl, o_sub, o_addt, n_split, n_find, o_mul, o_rep, o_div, o_mod, o_pow, c_lt, c_le, c_gt, c_ge, c_lts, c_eq, c_ne, c_is, c_isnot, c_in, c_notin, t_bl, t_non, t_int, t_lst, t_tup, x_lst, x_tup, x_scr, x_str, u_lst, u_scr, u_str, b_lenl, b_lent, b_lenc, b_lens, b_abs, b_max2, b_min2, b_int, b_inb, b_tup, b_srtk, i_lst, i_tup, i_scr, is_n, is_b, exists_eq_left', exists_eq_left, exists_eq_right, Option.some.injEq,  partD, setS, setAll, tgD, tgSlots, wipeE, List.set_cons_zero, List.set_cons_succ, List.set_nil, List.take_nil, List.take_zero, m_f, m_t, r_int, r_bl, r_str, r_non, r_tup, r_lstf, r_lstt, r_v, r_newf, r_newt, List.any_cons, List.any_nil, owned, Bool.or_false, Bool.false_or, fl_bl, fl_int, fl_str, fl_non, fl_rs, exists_eq', Ct.lst.injEq, Ct.ob.injEq, D.kst.injEq, List.take_succ_cons, dat_lst, dat_ob, dat_fz, Option.some.injEq, SV.d.injEq, D.int.injEq, forall_eq', reduceCtorEq, false_implies, forall_const, Bool.false_eq_true, List.set, if_true, if_false, Bool.not_true, Bool.not_false]
    exact fin _ _
  · simp only [fnT, startE, List.length_cons, List.length_nil, List.map_cons, List.map_nil, List.cons_append, List.nil_append, Nat.sub_self, Nat.reduceSub, Nat.reduceAdd, Nat.reduceLT, List.replicate_zero, List.reduceReplicate, List.replicate_succ, wpSs, wpS, wpE, wpEs, wpT, wpI, wpC, List.getElem?_cons_zero, List.getElem?_cons_succ, List.getElem?_nil, den, dens, back, true_and, and_true, nrmE, nrmT, frzSlots, cutV1, frzT, frzL, eq_ii, eq_bb, eq_ss, eq_nn, D.isNon, o_add, o_adds, o_addl, o_sub, o_addt, n_split, n_find, o_mul, o_rep, o_div, o_mod, o_pow, c_lt, c_le, c_gt, c_ge, c_lts, c_eq, c_ne, c_is, c_isnot, c_in, c_notin, t_bl, t_non, t_int, t_lst, t_tup, x_lst, x_tup, x_scr, x_str, u_lst, u_scr, u_str, b_lenl, b_lent, b_lenc, b_lens, b_abs, b_max2, b_min2, b_int, b_inb, b_tup, b_srtk, i_lst, i_tup, i_scr, is_n, is_b, exists_eq_left', exists_eq_left, exists_eq_right, Option.some.injEq,  partD, setS, setAll, tgD, tgSlots, wipeE, List.set_cons_zero, List.set_cons_succ, List.set_nil, List.take_nil, List.take_zero, m_f, m_t, r_int, r_bl, r_str, r_non, r_tup, r_lstf, r_lstt, r_v, r_newf, r_newt, List.any_cons, List.any_nil, owned, Bool.or_false, Bool.false_or, fl_bl, fl_int, fl_str, fl_non, fl_rs, exists_eq', Ct.lst.injEq, Ct.ob.injEq, D.kst.injEq, List.take_succ_cons, dat_lst, dat_ob, dat_fz, Option.some.injEq, SV.d.injEq, D.int.injEq, forall_eq', reduceCtorEq, false_implies, forall_const, Bool.false_eq_true, List.set, if_true, if_false, Bool.not_true, Bool.not_false]
    refine eq_ints ⟨fun q => by simp at q, fun _ => ?_⟩
    simp only [b21_2, fnT, startE, List.length_cons, List.length_nil, List.map_cons, List.map_nil, List.cons_append, List.nil_append, Nat.sub_self, Nat.reduceSub, Nat.reduceAdd, Nat.reduceLT, List.replicate_zero, List.reduceReplicate, List.replicate_succ, wpSs, wpS, wpE, wpEs, wpT, wpI, wpC, List.getElem?_cons_zero, List.getElem?_cons_succ, List.getElem?_nil, den, dens, back, true_and, and_true, nrmE, nrmT, frzSlots, cutV1, frzT, frzL, eq_ii, eq_bb, eq_ss, eq_nn, D.isNon, o_add, o_adds, o_addl, o_sub, o_addt, n_split, n_find, o_mul, o_rep, o_div, o_mod, o_pow, c_lt, c_le, c_gt, c_ge, c_lts, c_eq, c_ne, c_is, c_isnot, c_in, c_notin, t_bl, t_non, t_int, t_lst, t_tup, x_lst, x_tup, x_scr, x_str, u_lst, u_scr, u_str, b_lenl, b_lent, b_lenc, b_lens, b_abs, b_max2, b_min2, b_int, b_inb, b_tup, b_srtk, i_lst, i_tup, i_scr, is_n, is_b, exists_eq_left', exists_eq_left, exists_eq_right, Option.some.injEq,  partD, setS, setAll, tgD, tgSlots, wipeE, List.set_cons_zero, List.set_cons_succ, List.set_nil, List.take_nil, List.take_zero, m_f, m_t, r_int, r_bl, r_str, r_non, r_tup, r_lstf, r_lstt, r_v, r_newf, r_newt, List.any_cons, List.any_nil, owned, Bool.or_false, Bool.false_or, fl_bl, fl_int, fl_str, fl_non, fl_rs, exists_eq', Ct.lst.injEq, Ct.ob.injEq, D.kst.injEq, List.take_succ_cons, dat_lst, dat_ob, dat_fz, Option.some.injEq, SV.d.injEq, D.int.injEq, forall_eq', reduceCtorEq, false_implies, forall_const, Bool.false_eq_true, List.set, if_true, if_false, Bool.not_true, Bool.not_false]
    refine s_lsafe (n := n + 1) (by omega) (by omega) ?_
    simp only [fnT, startE, List.length_cons, List.length_nil, List.map_cons, List.map_nil, List.cons_append, List.nil_append, Nat.sub_self, Nat.reduceSub, Nat.reduceAdd, Nat.reduceLT, List.replicate_zero, List.reduceReplicate, List.replicate_succ, wpSs, wpS, wpE, wpEs, wpT, wpI, wpC, List.getElem?_cons_zero, List.getElem?_cons_succ, List.getElem?_nil, den, dens, back, true_and, and_true, nrmE, nrmT, frzSlots, cutV1, frzT, frzL, eq_ii, eq_bb, eq_ss, eq_nn, D.isNon, o_add, o_adds, o_addl, o_sub, o_addt, n_split, n_find, o_mul, o_rep, o_div, o_mod, o_pow, c_lt, c_le, c_gt, c_ge, c_lts, c_eq, c_ne, c_is, c_isnot, c_in, c_notin, t_bl, t_non, t_int, t_lst, t_tup, x_lst, x_tup, x_scr, x_str, u_lst, u_scr, u_str, b_lenl, b_lent, b_lenc, b_lens, b_abs, b_max2, b_min2, b_int, b_inb, b_tup, b_srtk, i_lst, i_tup, i_scr, is_n, is_b, exists_eq_left', exists_eq_left, exists_eq_right, Option.some.injEq,  partD, setS, setAll, tgD, tgSlots, wipeE, List.set_cons_zero, List.set_cons_succ, List.set_nil, List.take_nil, List.take_zero, m_f, m_t, r_int, r_bl, r_str, r_non, r_tup, r_lstf, r_lstt, r_v, r_newf, r_newt, List.any_cons, List.any_nil, owned, Bool.or_false, Bool.false_or, fl_bl, fl_int, fl_str, fl_non, fl_rs, exists_eq', Ct.lst.injEq, Ct.ob.injEq, D.kst.injEq, List.take_succ_cons, dat_lst, dat_ob, dat_fz, Option.some.injEq, SV.d.injEq, D.int.injEq, forall_eq', reduceCtorEq, false_implies, forall_const, Bool.false_eq_true, List.set, if_true, if_false, Bool.not_true, Bool.not_false]
    refine ⟨fun _ => fin _ _, fun _ => ?_⟩
    refine s_common (by omega) hL ?_
    simp only [fnT, startE, List.length_cons, List.length_nil, List.map_cons, List.map_nil, List.cons_append, List.nil_append, Nat.sub_self, Nat.reduceSub, Nat.reduceAdd, Nat.reduceLT, List.replicate_zero, List.reduceReplicate, List.replicate_succ, wpSs, wpS, wpE, wpEs, wpT, wpI, wpC, List.getElem?_cons_zero, List.getElem?_cons_succ, List.getElem?_nil, den, dens, back, true_and, and_true, nrmE, nrmT, frzSlots, cutV1, frzT, frzL, eq_ii, eq_bb, eq_ss, eq_nn, D.isNon, o_add, o_adds, o_addl, o_sub, o_addt, n_split, n_find, o_mul, o_rep, o_div, o_mod, o_pow, c_lt, c_le, c_gt, c_ge, c_lts, c_eq, c_ne, c_is, c_isnot, c_in, c_notin, t_bl, t_non, t_int, t_lst, t_tup, x_lst, x_tup, x_scr, x_str, u_lst, u_scr, u_str, b_lenl, b_lent, b_lenc, b_lens, b_abs, b_max2, b_min2, b_int, b_inb, b_tup, b_srtk, i_lst, i_tup, i_scr, is_n, is_b, exists_eq_left', exists_eq_left, exists_eq_right, Option.some.injEq,  partD, setS, setAll, tgD, tgSlots, wipeE, List.set_cons_zero, List.set_cons_succ, List.set_nil, List.take_nil, List.take_zero, m_f, m_t, r_int, r_bl, r_str, r_non, r_tup, r_lstf, r_lstt, r_v, r_newf, r_newt, List.any_cons, List.any_nil, owned, Bool.or_false, Bool.false_or, fl_bl, fl_int, fl_str, fl_non, fl_rs, exists_eq', Ct.lst.injEq, Ct.ob.injEq, D.kst.injEq, List.take_succ_cons, dat_lst, dat_ob, dat_fz, Option.some.injEq, SV.d.injEq, D.int.injEq, forall_eq', reduceCtorEq, false_implies, forall_const, Bool.false_eq_true, List.set, if_true, if_false, Bool.not_true, Bool.not_false]
    have ne : ¬ rest % ((gl ws (cs.length : Int) : Nat) : Int) = 0 := fun e => nd (Int.dvd_of_emod_eq_zero e)
    refine ⟨by omega, fun _ => fin _ _, fun q => absurd (by simpa using q) ne⟩
  · have hd : ((gl ws (cs.length : Int) : Nat) : Int) ∣ rest := reach_gl ⟨ps, P.l1, P.b1, P.g1⟩
    have hm0 := Int.emod_eq_zero_of_dvd hd
    have sb : safeB ws cs.length = false := by rw [← Bool.not_eq_true, safeB_iff]; exact nS
    simp only [fnT, startE, List.length_cons, List.length_nil, List.map_cons, List.map_nil, List.cons_append, List.nil_append, Nat.sub_self, Nat.reduceSub, Nat.reduceAdd, Nat.reduceLT, List.replicate_zero, List.reduceReplicate, List.replicate_succ, wpSs, wpS, wpE, wpEs, wpT, wpI, wpC, List.getElem?_cons_zero, List.getElem?_cons_succ, List.getElem?_nil, den, dens, back, true_and, and_true, nrmE, nrmT, frzSlots, cutV1, frzT, frzL, eq_ii, eq_bb, eq_ss, eq_nn, D.isNon, o_add, o_adds, o_addl, o_sub, o_addt, n_split, n_find, o_mul, o_rep, o_div, o_mod, o_pow, c_lt, c_le, c_gt, c_ge, c_lts, c_eq, c_ne, c_is, c_isnot, c_in, c_notin, t_bl, t_non, t_int, t_lst, t_tup, x_lst, x_tup, x_scr, x_str, u_lst, u_scr, u_str, b_lenl, b_lent, b_lenc, b_lens, b_abs, b_max2, b_min2, b_int, b_inb, b_tup, b_srtk, i_lst, i_tup, i_scr, is_n, is_b, exists_eq_left', exists_eq_left, exists_eq_right, Option.some.injEq,  partD, setS, setAll, tgD, tgSlots, wipeE, List.set_cons_zero, List.set_cons_succ, List.set_nil, List.take_nil, List.take_zero, m_f, m_t, r_int, r_bl, r_str, r_non, r_tup, r_lstf, r_lstt, r_v, r_newf, r_newt, List.any_cons, List.any_nil, owned, Bool.or_false, Bool.false_or, fl_bl, fl_int, fl_str, fl_non, fl_rs, exists_eq', Ct.lst.injEq, Ct.ob.injEq, D.kst.injEq, List.take_succ_cons, dat_lst, dat_ob, dat_fz, Option.some.injEq, SV.d.injEq, D.int.injEq, forall_eq', reduceCtorEq, false_implies, forall_const, Bool.false_eq_true, List.set, if_true, if_false, Bool.not_true, Bool.not_false]
    refine eq_ints ⟨fun q => by simp at q, fun _ => ?_⟩
    simp only [b21_2, fnT, startE, List.length_cons, List.length_nil, List.map_cons, List.map_nil, List.cons_append, List.nil_append, Nat.sub_self, Nat.reduceSub, Nat.reduceAdd, Nat.reduceLT, List.replicate_zero, List.reduceReplicate, List.replicate_succ, wpSs, wpS, wpE, wpEs, wpT, wpI, wpC, List.getElem?_cons_zero, List.getElem?_cons_succ, List.getElem?_nil, den, dens, back, true_and, and_true, nrmE, nrmT, frzSlots, cutV1, frzT, frzL, eq_ii, eq_bb, eq_ss, eq_nn, D.isNon, o_add, o_adds, o_addl, o_sub, o_addt, n_split, n_find, o_mul, o_rep, o_div, o_mod, o_pow, c_lt, c_le, c_gt, c_ge, c_lts, c_eq, c_ne, c_is, c_isnot, c_in, c_notin, t_bl, t_non, t_int, t_lst, t_tup, x_lst, x_tup, x_scr, x_str, u_lst, u_scr, u_str, b_lenl, b_lent, b_lenc, b_lens, b_abs, b_max2, b_min2, b_int, b_inb, b_tup, b_srtk, i_lst, i_tup, i_scr, is_n, is_b, exists_eq_left', exists_eq_left, exists_eq_right, Option.some.injEq,  partD, setS, setAll, tgD, tgSlots, wipeE, List.set_cons_zero, List.set_cons_succ, List.set_nil, List.take_nil, List.take_zero, m_f, m_t, r_int, r_bl, r_str, r_non, r_tup, r_lstf, r_lstt, r_v, r_newf, r_newt, List.any_cons, List.any_nil, owned, Bool.or_false, Bool.false_or, fl_bl, fl_int, fl_str, fl_non, fl_rs, exists_eq', Ct.lst.injEq, Ct.ob.injEq, D.kst.injEq, List.take_succ_cons, dat_lst, dat_ob, dat_fz, Option.some.injEq, SV.d.injEq, D.int.injEq, forall_eq', reduceCtorEq, false_implies, forall_const, Bool.false_eq_true, List.set, if_true, if_false, Bool.not_true, Bool.not_false]
    refine s_lsafe (n := n + 1) (by omega) (by omega) ?_
    rw [sb]
    simp only [fnT, startE, List.length_cons, List.length_nil, List.map_cons, List.map_nil, List.cons_append, List.nil_append, Nat.sub_self, Nat.reduceSub, Nat.reduceAdd, Nat.reduceLT, List.replicate_zero, List.reduceReplicate, List.replicate_succ, wpSs, wpS, wpE, wpEs, wpT, wpI, wpC, List.getElem?_cons_zero, List.getElem?_cons_succ, List.getElem?_nil, den, dens, back, true_and, and_true, nrmE, nrmT, frzSlots, cutV1, frzT, frzL, eq_ii, eq_bb, eq_ss, eq_nn, D.isNon, o_add, o_adds, o_addl, o_sub, o_addt, n_split, n_find, o_mul, o_rep, o_div, o_mod, o_pow, c_lt, c_le, c_gt, c_ge, c_lts, c_eq, c_ne, c_is, c_isnot, c_in, c_notin, t_bl, t_non, t_int, t_lst, t_tup, x_lst, x_tup, x_scr, x_str, u_lst, u_scr, u_str, b_lenl, b_lent, b_lenc, b_lens, b_abs, b_max2, b_min2, b_int, b_inb, b_tup, b_srtk, i_lst, i_tup, i_scr, is_n, is_b, exists_eq_left', exists_eq_left, exists_eq_right, Option.some.injEq,  partD, setS, setAll, tgD, tgSlots, wipeE, List.set_cons_zero, List.set_cons_succ, List.set_nil, List.take_nil, List.take_zero, m_f, m_t, r_int, r_bl, r_str, r_non, r_tup, r_lstf, r_lstt, r_v, r_newf, r_newt, List.any_cons, List.any_nil, owned, Bool.or_false, Bool.false_or, fl_bl, fl_int, fl_str, fl_non, fl_rs, exists_eq', Ct.lst.injEq, Ct.ob.injEq, D.kst.injEq, List.take_succ_cons, dat_lst, dat_ob, dat_fz, Option.some.injEq, SV.d.injEq, D.int.injEq, forall_eq', reduceCtorEq, false_implies, forall_const, Bool.false_eq_true, List.set, if_true, if_false, Bool.not_true, Bool.not_false]
    refine s_common (by omega) hL ?_
    simp only [hm0, fnT, startE, List.length_cons, List.length_nil, List.map_cons, List.map_nil, List.cons_append, List.nil_append, Nat.sub_self, Nat.reduceSub, Nat.reduceAdd, Nat.reduceLT, List.replicate_zero, List.reduceReplicate, List.replicate_succ, wpSs, wpS, wpE, wpEs, wpT, wpI, wpC, List.getElem?_cons_zero, List.getElem?_cons_succ, List.getElem?_nil, den, dens, back, true_and, and_true, nrmE, nrmT, frzSlots, cutV1, frzT, frzL, eq_ii, eq_bb, eq_ss, eq_nn, D.isNon, o_add, o_adds, o_addl, o_sub, o_addt, n_split, n_find, o_mul, o_rep, o_div, o_mod, o_pow, c_lt, c_le, c_gt, c_ge, c_lts, c_eq, c_ne, c_is, c_isnot, c_in, c_notin, t_bl, t_non, t_int, t_lst, t_tup, x_lst, x_tup, x_scr, x_str, u_lst, u_scr, u_str, b_lenl, b_lent, b_lenc, b_lens, b_abs, b_max2, b_min2, b_int, b_inb, b_tup, b_srtk, i_lst, i_tup, i_scr, is_n, is_b, exists_eq_left', exists_eq_left, exists_eq_right, Option.some.injEq,  partD, setS, setAll, tgD, tgSlots, wipeE, List.set_cons_zero, List.set_cons_succ, List.set_nil, List.take_nil, List.take_zero, m_f, m_t, r_int, r_bl, r_str, r_non, r_tup, r_lstf, r_lstt, r_v, r_newf, r_newt, List.any_cons, List.any_nil, owned, Bool.or_false, Bool.false_or, fl_bl, fl_int, fl_str, fl_non, fl_rs, exists_eq', Ct.lst.injEq, Ct.ob.injEq, D.kst.injEq, List.take_succ_cons, dat_lst, dat_ob, dat_fz, Option.some.injEq, SV.d.injEq, D.int.injEq, forall_eq', reduceCtorEq, false_implies, forall_const, Bool.false_eq_true, List.set, if_true, if_false, Bool.not_true, Bool.not_false]
    refine ⟨by omega, fun q => by simp at q, fun _ => ?_⟩
    simp only [b21_1, tyD, fnT, startE, List.length_cons, List.length_nil, List.map_cons, List.map_nil, List.cons_append, List.nil_append, Nat.sub_self, Nat.reduceSub, Nat.reduceAdd, Nat.reduceLT, List.replicate_zero, List.reduceReplicate, List.replicate_succ, wpSs, wpS, wpE, wpEs, wpT, wpI, wpC, List.getElem?_cons_zero, List.getElem?_cons_succ, List.getElem?_nil, den, dens, back, true_and, and_true, nrmE, nrmT, frzSlots, cutV1, frzT, frzL, eq_ii, eq_bb, eq_ss, eq_nn, D.isNon, o_add, o_adds, o_addl, o_sub, o_addt, n_split, n_find, o_mul, o_rep, o_div, o_mod, o_pow, c_lt, c_le, c_gt, c_ge, c_lts, c_eq, c_ne, c_is, c_isnot, c_in, c_notin, t_bl, t_non, t_int, t_lst, t_tup, x_lst, x_tup, x_scr, x_str, u_lst, u_scr, u_str, b_lenl, b_lent, b_lenc, b_lens, b_abs, b_max2, b_min2, b_int, b_inb, b_tup, b_srtk, i_lst, i_tup, i_scr, is_n, is_b, exists_eq_left', exists_eq_left, exists_eq_right, Option.some.injEq,  partD, setS, setAll, tgD, tgSlots, wipeE, List.set_cons_zero, List.set_cons_succ, List.set_nil, List.take_nil, List.take_zero, m_f, m_t, r_int, r_bl, r_str, r_non, r_tup, r_lstf, r_lstt, r_v, r_newf, r_newt, List.any_cons, List.any_nil, owned, Bool.or_false, Bool.false_or, fl_bl, fl_int, fl_str, fl_non, fl_rs, exists_eq', Ct.lst.injEq, Ct.ob.injEq, D.kst.injEq, List.take_succ_cons, dat_lst, dat_ob, dat_fz, Option.some.injEq, SV.d.injEq, D.int.injEq, forall_eq', reduceCtorEq, false_implies, forall_const, Bool.false_eq_true, List.set, if_true, if_false, Bool.not_true, Bool.not_false]
    refine ⟨fun q => absurd q (by decide), fun _ => ?_⟩
    have u0 : atI [D.str (sL (wrd cs ps)), D.str (sL (wrd cs qs))] 0 = some (.str (sL (wrd cs ps))) := getl (i := 0) rfl
    have u1 : atI [D.str (sL (wrd cs ps)), D.str (sL (wrd cs qs))] 1 = some (.str (sL (wrd cs qs))) := getl (i := 1) rfl
    simp only [b21_0, u0, u1, fnT, startE, List.length_cons, List.length_nil, List.map_cons, List.map_nil, List.cons_append, List.nil_append, Nat.sub_self, Nat.reduceSub, Nat.reduceAdd, Nat.reduceLT, List.replicate_zero, List.reduceReplicate, List.replicate_succ, wpSs, wpS, wpE, wpEs, wpT, wpI, wpC, List.getElem?_cons_zero, List.getElem?_cons_succ, List.getElem?_nil, den, dens, back, true_and, and_true, nrmE, nrmT, frzSlots, cutV1, frzT, frzL, eq_ii, eq_bb, eq_ss, eq_nn, D.isNon, o_add, o_adds, o_addl, o_sub, o_addt, n_split, n_find, o_mul, o_rep, o_div, o_mod, o_pow, c_lt, c_le, c_gt, c_ge, c_lts, c_eq, c_ne, c_is, c_isnot, c_in, c_notin, t_bl, t_non, t_int, t_lst, t_tup, x_lst, x_tup, x_scr, x_str, u_lst, u_scr, u_str, b_lenl, b_lent, b_lenc, b_lens, b_abs, b_max2, b_min2, b_int, b_inb, b_tup, b_srtk, i_lst, i_tup, i_scr, is_n, is_b, exists_eq_left', exists_eq_left, exists_eq_right, Option.some.injEq,  partD, setS, setAll, tgD, tgSlots, wipeE, List.set_cons_zero, List.set_cons_succ, List.set_nil, List.take_nil, List.take_zero, m_f, m_t, r_int, r_bl, r_str, r_non, r_tup, r_lstf, r_lstt, r_v, r_newf, r_newt, List.any_cons, List.any_nil, owned, Bool.or_false, Bool.false_or, fl_bl, fl_int, fl_str, fl_non, fl_rs, exists_eq', Ct.lst.injEq, Ct.ob.injEq, D.kst.injEq, List.take_succ_cons, dat_lst, dat_ob, dat_fz, Option.some.injEq, SV.d.injEq, D.int.injEq, forall_eq', reduceCtorEq, false_implies, forall_const, Bool.false_eq_true, List.set, if_true, if_false, Bool.not_true, Bool.not_false]
    refine s_good2 (n := n + 2) hc c3 c26 hL P.b1 P.l1 w8 P.g1 ?_
    simp only [u0, u1, fnT, startE, List.length_cons, List.length_nil, List.map_cons, List.map_nil, List.cons_append, List.nil_append, Nat.sub_self, Nat.reduceSub, Nat.reduceAdd, Nat.reduceLT, List.replicate_zero, List.reduceReplicate, List.replicate_succ, wpSs, wpS, wpE, wpEs, wpT, wpI, wpC, List.getElem?_cons_zero, List.getElem?_cons_succ, List.getElem?_nil, den, dens, back, true_and, and_true, nrmE, nrmT, frzSlots, cutV1, frzT, frzL, eq_ii, eq_bb, eq_ss, eq_nn, D.isNon, o_add, o_adds, o_addl, o_sub, o_addt, n_split, n_find, o_mul, o_rep, o_div, o_mod, o_pow, c_lt, c_le, c_gt, c_ge, c_lts, c_eq, c_ne, c_is, c_isnot, c_in, c_notin, t_bl, t_non, t_int, t_lst, t_tup, x_lst, x_tup, x_scr, x_str, u_lst, u_scr, u_str, b_lenl, b_lent, b_lenc, b_lens, b_abs, b_max2, b_min2, b_int, b_inb, b_tup, b_srtk, i_lst, i_tup, i_scr, is_n, is_b, exists_eq_left', exists_eq_left, exists_eq_right, Option.some.injEq,  partD, setS, setAll, tgD, tgSlots, wipeE, List.set_cons_zero, List.set_cons_succ, List.set_nil, List.take_nil, List.take_zero, m_f, m_t, r_int, r_bl, r_str, r_non, r_tup, r_lstf, r_lstt, r_v, r_newf, r_newt, List.any_cons, List.any_nil, owned, Bool.or_false, Bool.false_or, fl_bl, fl_int, fl_str, fl_non, fl_rs, exists_eq', Ct.lst.injEq, Ct.ob.injEq, D.kst.injEq, List.take_succ_cons, dat_lst, dat_ob, dat_fz, Option.some.injEq, SV.d.injEq, D.int.injEq, forall_eq', reduceCtorEq, false_implies, forall_const, Bool.false_eq_true, List.set, if_true, if_false, Bool.not_true, Bool.not_false]
    refine s_good2 (n := n + 2) hc c3 c26 hL P.b2 P.l2 w8 P.g2 ?_
    simp only [u0, u1, fnT, startE, List.length_cons, List.length_nil, List.map_cons, List.map_nil, List.cons_append, List.nil_append, Nat.sub_self, Nat.reduceSub, Nat.reduceAdd, Nat.reduceLT, List.replicate_zero, List.reduceReplicate, List.replicate_succ, wpSs, wpS, wpE, wpEs, wpT, wpI, wpC, List.getElem?_cons_zero, List.getElem?_cons_succ, List.getElem?_nil, den, dens, back, true_and, and_true, nrmE, nrmT, frzSlots, cutV1, frzT, frzL, eq_ii, eq_bb, eq_ss, eq_nn, D.isNon, o_add, o_adds, o_addl, o_sub, o_addt, n_split, n_find, o_mul, o_rep, o_div, o_mod, o_pow, c_lt, c_le, c_gt, c_ge, c_lts, c_eq, c_ne, c_is, c_isnot, c_in, c_notin, t_bl, t_non, t_int, t_lst, t_tup, x_lst, x_tup, x_scr, x_str, u_lst, u_scr, u_str, b_lenl, b_lent, b_lenc, b_lens, b_abs, b_max2, b_min2, b_int, b_inb, b_tup, b_srtk, i_lst, i_tup, i_scr, is_n, is_b, exists_eq_left', exists_eq_left, exists_eq_right, Option.some.injEq,  partD, setS, setAll, tgD, tgSlots, wipeE, List.set_cons_zero, List.set_cons_succ, List.set_nil, List.take_nil, List.take_zero, m_f, m_t, r_int, r_bl, r_str, r_non, r_tup, r_lstf, r_lstt, r_v, r_newf, r_newt, List.any_cons, List.any_nil, owned, Bool.or_false, Bool.false_or, fl_bl, fl_int, fl_str, fl_non, fl_rs, exists_eq', Ct.lst.injEq, Ct.ob.injEq, D.kst.injEq, List.take_succ_cons, dat_lst, dat_ob, dat_fz, Option.some.injEq, SV.d.injEq, D.int.injEq, forall_eq', reduceCtorEq, false_implies, forall_const, Bool.false_eq_true, List.set, if_true, if_false, Bool.not_true, Bool.not_false]
    have lp : (wrd cs ps).length = ws.length := by simp [wrd, P.l1]
    refine s_one (n := n + 3) (by simp [wrd, P.l1, P.l2]) (by omega) ?_ ?_
    · simp only [fnT, startE, List.length_cons, List.length_nil, List.map_cons, List.map_nil, List.cons_append, List.nil_append, Nat.sub_self, Nat.reduceSub, Nat.reduceAdd, Nat.reduceLT, List.replicate_zero, List.reduceReplicate, List.replicate_succ, wpSs, wpS, wpE, wpEs, wpT, wpI, wpC, List.getElem?_cons_zero, List.getElem?_cons_succ, List.getElem?_nil, den, dens, back, true_and, and_true, nrmE, nrmT, frzSlots, cutV1, frzT, frzL, eq_ii, eq_bb, eq_ss, eq_nn, D.isNon, o_add, o_adds, o_addl, o_sub, o_addt, n_split, n_find, o_mul, o_rep, o_div, o_mod, o_pow, c_lt, c_le, c_gt, c_ge, c_lts, c_eq, c_ne, c_is, c_isnot, c_in, c_notin, t_bl, t_non, t_int, t_lst, t_tup, x_lst, x_tup, x_scr, x_str, u_lst, u_scr, u_str, b_lenl, b_lent, b_lenc, b_lens, b_abs, b_max2, b_min2, b_int, b_inb, b_tup, b_srtk, i_lst, i_tup, i_scr, is_n, is_b, exists_eq_left', exists_eq_left, exists_eq_right, Option.some.injEq,  partD, setS, setAll, tgD, tgSlots, wipeE, List.set_cons_zero, List.set_cons_succ, List.set_nil, List.take_nil, List.take_zero, m_f, m_t, r_int, r_bl, r_str, r_non, r_tup, r_lstf, r_lstt, r_v, r_newf, r_newt, List.any_cons, List.any_nil, owned, Bool.or_false, Bool.false_or, fl_bl, fl_int, fl_str, fl_non, fl_rs, exists_eq', Ct.lst.injEq, Ct.ob.injEq, D.kst.injEq, List.take_succ_cons, dat_lst, dat_ob, dat_fz, Option.some.injEq, SV.d.injEq, D.int.injEq, forall_eq', reduceCtorEq, false_implies, forall_const, Bool.false_eq_true, List.set, if_true, if_false, Bool.not_true, Bool.not_false]
      exact fin _ _
    · rw [lp]
      rcases P.one with ⟨t, ht, hj⟩ | ⟨t, ht, hj, y1, y2⟩
      · exact .inl ⟨t, ht, fun j => by rw [← hj j]; exact not_congr (wrd_eq hc P.b1 P.b2)⟩
      · exact .inr ⟨t, ht, fun j => by rw [← hj j]; exact not_congr (wrd_eq hc P.b1 P.b2), (wrd_eq hc P.b1 P.b2).mpr y1, (wrd_eq hc P.b1 P.b2).mpr y2⟩
theorem s_law {n : Nat} {ns : List Int} {k z} (hl : ns.length ≤ 63) (h : k (.v (.bl true))) : wpF fnT gcT (n+5) 21 [.scr ns] k z := by
  unfold wpF
  simp only [f21, b21, fnT, startE, List.length_cons, List.length_nil, List.map_cons, List.map_nil, List.cons_append, List.nil_append, Nat.sub_self, Nat.reduceSub, Nat.reduceAdd, Nat.reduceLT, List.replicate_zero, List.reduceReplicate, List.replicate_succ, wpSs, wpS, wpE, wpEs, wpT, wpI, wpC, List.getElem?_cons_zero, List.getElem?_cons_succ, List.getElem?_nil, den, dens, back, true_and, and_true, nrmE, nrmT, frzSlots, cutV1, frzT, frzL, eq_ii, eq_bb, eq_ss, eq_nn, D.isNon, o_add, o_adds, o_addl, o_sub, o_addt, n_split, n_find, o_mul, o_rep, o_div, o_mod, o_pow, c_lt, c_le, c_gt, c_ge, c_lts, c_eq, c_ne, c_is, c_isnot, c_in, c_notin, t_bl, t_non, t_int, t_lst, t_tup, x_lst, x_tup, x_scr, x_str, u_lst, u_scr, u_str, b_lenl, b_lent, b_lenc, b_lens, b_abs, b_max2, b_min2, b_int, b_inb, b_tup, b_srtk, i_lst, i_tup, i_scr, is_n, is_b, exists_eq_left', exists_eq_left, exists_eq_right, Option.some.injEq,  partD, setS, setAll, tgD, tgSlots, wipeE, List.set_cons_zero, List.set_cons_succ, List.set_nil, List.take_nil, List.take_zero, m_f, m_t, r_int, r_bl, r_str, r_non, r_tup, r_lstf, r_lstt, r_v, r_newf, r_newt, List.any_cons, List.any_nil, owned, Bool.or_false, Bool.false_or, fl_bl, fl_int, fl_str, fl_non, fl_rs, exists_eq', Ct.lst.injEq, Ct.ob.injEq, D.kst.injEq, List.take_succ_cons, dat_lst, dat_ob, dat_fz, Option.some.injEq, SV.d.injEq, D.int.injEq, forall_eq', reduceCtorEq, false_implies, forall_const, Bool.false_eq_true, List.set, if_true, if_false, Bool.not_true, Bool.not_false]
  generalize hN : (if (if (ns.length : Int) > 1 then (ns.length : Int) else 1) < 20 then (if (ns.length : Int) > 1 then (ns.length : Int) else 1) else 20) = N
  have hN2 : 0 ≤ N ∧ N ≤ 40 := by
    rw [← hN]; split <;> split <;> omega
  refine ⟨by omega, by omega, fun i e l => l = [] ∧ ∃ x1 x2 x3 x4 x5 x6 x7, e = [some (.d (.scr ns)), x1, x2, x3, x4, x5, x6, x7], ⟨rfl, none, none, none, none, none, none, none, rfl⟩, ?_, ?_⟩
  · rintro i x e l hx ⟨rfl, x1, x2, x3, x4, x5, x6, x7, rfl⟩
    obtain ⟨hi, rfl⟩ := rng_it hx
    simp only [b21_4, fnT, startE, List.length_cons, List.length_nil, List.map_cons, List.map_nil, List.cons_append, List.nil_append, Nat.sub_self, Nat.reduceSub, Nat.reduceAdd, Nat.reduceLT, List.replicate_zero, List.reduceReplicate, List.replicate_succ, wpSs, wpS, wpE, wpEs, wpT, wpI, wpC, List.getElem?_cons_zero, List.getElem?_cons_succ, List.getElem?_nil, den, dens, back, true_and, and_true, nrmE, nrmT, frzSlots, cutV1, frzT, frzL, eq_ii, eq_bb, eq_ss, eq_nn, D.isNon, o_add, o_adds, o_addl, o_sub, o_addt, n_split, n_find, o_mul, o_rep, o_div, o_mod, o_pow, c_lt, c_le, c_gt, c_ge, c_lts, c_eq, c_ne, c_is, c_isnot, c_in, c_notin, t_bl, t_non, t_int, t_lst, t_tup, x_lst, x_tup, x_scr, x_str, u_lst, u_scr, u_str, b_lenl, b_lent, b_lenc, b_lens, b_abs, b_max2, b_min2, b_int, b_inb, b_tup, b_srtk, i_lst, i_tup, i_scr, is_n, is_b, exists_eq_left', exists_eq_left, exists_eq_right, Option.some.injEq,  partD, setS, setAll, tgD, tgSlots, wipeE, List.set_cons_zero, List.set_cons_succ, List.set_nil, List.take_nil, List.take_zero, m_f, m_t, r_int, r_bl, r_str, r_non, r_tup, r_lstf, r_lstt, r_v, r_newf, r_newt, List.any_cons, List.any_nil, owned, Bool.or_false, Bool.false_or, fl_bl, fl_int, fl_str, fl_non, fl_rs, exists_eq', Ct.lst.injEq, Ct.ob.injEq, D.kst.injEq, List.take_succ_cons, dat_lst, dat_ob, dat_fz, Option.some.injEq, SV.d.injEq, D.int.injEq, forall_eq', reduceCtorEq, false_implies, forall_const, Bool.false_eq_true, List.set, if_true, if_false, Bool.not_true, Bool.not_false]
    refine s_cell_at ?_
    generalize ns[i]?.getD 0 = c0
    simp only [fnT, startE, List.length_cons, List.length_nil, List.map_cons, List.map_nil, List.cons_append, List.nil_append, Nat.sub_self, Nat.reduceSub, Nat.reduceAdd, Nat.reduceLT, List.replicate_zero, List.reduceReplicate, List.replicate_succ, wpSs, wpS, wpE, wpEs, wpT, wpI, wpC, List.getElem?_cons_zero, List.getElem?_cons_succ, List.getElem?_nil, den, dens, back, true_and, and_true, nrmE, nrmT, frzSlots, cutV1, frzT, frzL, eq_ii, eq_bb, eq_ss, eq_nn, D.isNon, o_add, o_adds, o_addl, o_sub, o_addt, n_split, n_find, o_mul, o_rep, o_div, o_mod, o_pow, c_lt, c_le, c_gt, c_ge, c_lts, c_eq, c_ne, c_is, c_isnot, c_in, c_notin, t_bl, t_non, t_int, t_lst, t_tup, x_lst, x_tup, x_scr, x_str, u_lst, u_scr, u_str, b_lenl, b_lent, b_lenc, b_lens, b_abs, b_max2, b_min2, b_int, b_inb, b_tup, b_srtk, i_lst, i_tup, i_scr, is_n, is_b, exists_eq_left', exists_eq_left, exists_eq_right, Option.some.injEq,  partD, setS, setAll, tgD, tgSlots, wipeE, List.set_cons_zero, List.set_cons_succ, List.set_nil, List.take_nil, List.take_zero, m_f, m_t, r_int, r_bl, r_str, r_non, r_tup, r_lstf, r_lstt, r_v, r_newf, r_newt, List.any_cons, List.any_nil, owned, Bool.or_false, Bool.false_or, fl_bl, fl_int, fl_str, fl_non, fl_rs, exists_eq', Ct.lst.injEq, Ct.ob.injEq, D.kst.injEq, List.take_succ_cons, dat_lst, dat_ob, dat_fz, Option.some.injEq, SV.d.injEq, D.int.injEq, forall_eq', reduceCtorEq, false_implies, forall_const, Bool.false_eq_true, List.set, if_true, if_false, Bool.not_true, Bool.not_false]
    refine s_alphabet fun cs hc c3 c26 hcs => ?_
    simp only [len_sL, fnT, startE, List.length_cons, List.length_nil, List.map_cons, List.map_nil, List.cons_append, List.nil_append, Nat.sub_self, Nat.reduceSub, Nat.reduceAdd, Nat.reduceLT, List.replicate_zero, List.reduceReplicate, List.replicate_succ, wpSs, wpS, wpE, wpEs, wpT, wpI, wpC, List.getElem?_cons_zero, List.getElem?_cons_succ, List.getElem?_nil, den, dens, back, true_and, and_true, nrmE, nrmT, frzSlots, cutV1, frzT, frzL, eq_ii, eq_bb, eq_ss, eq_nn, D.isNon, o_add, o_adds, o_addl, o_sub, o_addt, n_split, n_find, o_mul, o_rep, o_div, o_mod, o_pow, c_lt, c_le, c_gt, c_ge, c_lts, c_eq, c_ne, c_is, c_isnot, c_in, c_notin, t_bl, t_non, t_int, t_lst, t_tup, x_lst, x_tup, x_scr, x_str, u_lst, u_scr, u_str, b_lenl, b_lent, b_lenc, b_lens, b_abs, b_max2, b_min2, b_int, b_inb, b_tup, b_srtk, i_lst, i_tup, i_scr, is_n, is_b, exists_eq_left', exists_eq_left, exists_eq_right, Option.some.injEq,  partD, setS, setAll, tgD, tgSlots, wipeE, List.set_cons_zero, List.set_cons_succ, List.set_nil, List.take_nil, List.take_zero, m_f, m_t, r_int, r_bl, r_str, r_non, r_tup, r_lstf, r_lstt, r_v, r_newf, r_newt, List.any_cons, List.any_nil, owned, Bool.or_false, Bool.false_or, fl_bl, fl_int, fl_str, fl_non, fl_rs, exists_eq', Ct.lst.injEq, Ct.ob.injEq, D.kst.injEq, List.take_succ_cons, dat_lst, dat_ob, dat_fz, Option.some.injEq, SV.d.injEq, D.int.injEq, forall_eq', reduceCtorEq, false_implies, forall_const, Bool.false_eq_true, List.set, if_true, if_false, Bool.not_true, Bool.not_false]
    refine ⟨sizeLine_big (by omega), ?_⟩
    refine s_cell_at ?_
    simp only [fnT, startE, List.length_cons, List.length_nil, List.map_cons, List.map_nil, List.cons_append, List.nil_append, Nat.sub_self, Nat.reduceSub, Nat.reduceAdd, Nat.reduceLT, List.replicate_zero, List.reduceReplicate, List.replicate_succ, wpSs, wpS, wpE, wpEs, wpT, wpI, wpC, List.getElem?_cons_zero, List.getElem?_cons_succ, List.getElem?_nil, den, dens, back, true_and, and_true, nrmE, nrmT, frzSlots, cutV1, frzT, frzL, eq_ii, eq_bb, eq_ss, eq_nn, D.isNon, o_add, o_adds, o_addl, o_sub, o_addt, n_split, n_find, o_mul, o_rep, o_div, o_mod, o_pow, c_lt, c_le, c_gt, c_ge, c_lts, c_eq, c_ne, c_is, c_isnot, c_in, c_notin, t_bl, t_non, t_int, t_lst, t_tup, x_lst, x_tup, x_scr, x_str, u_lst, u_scr, u_str, b_lenl, b_lent, b_lenc, b_lens, b_abs, b_max2, b_min2, b_int, b_inb, b_tup, b_srtk, i_lst, i_tup, i_scr, is_n, is_b, exists_eq_left', exists_eq_left, exists_eq_right, Option.some.injEq,  partD, setS, setAll, tgD, tgSlots, wipeE, List.set_cons_zero, List.set_cons_succ, List.set_nil, List.take_nil, List.take_zero, m_f, m_t, r_int, r_bl, r_str, r_non, r_tup, r_lstf, r_lstt, r_v, r_newf, r_newt, List.any_cons, List.any_nil, owned, Bool.or_false, Bool.false_or, fl_bl, fl_int, fl_str, fl_non, fl_rs, exists_eq', Ct.lst.injEq, Ct.ob.injEq, D.kst.injEq, List.take_succ_cons, dat_lst, dat_ob, dat_fz, Option.some.injEq, SV.d.injEq, D.int.injEq, forall_eq', reduceCtorEq, false_implies, forall_const, Bool.false_eq_true, List.set, if_true, if_false, Bool.not_true, Bool.not_false]
    refine ⟨divOk_of (by decide) (by decide), ?_⟩
    refine s_some (n := n + 1) (by omega) (by omega) fun ws w3 w8 hL => ?_
    simp only [fnT, startE, List.length_cons, List.length_nil, List.map_cons, List.map_nil, List.cons_append, List.nil_append, Nat.sub_self, Nat.reduceSub, Nat.reduceAdd, Nat.reduceLT, List.replicate_zero, List.reduceReplicate, List.replicate_succ, wpSs, wpS, wpE, wpEs, wpT, wpI, wpC, List.getElem?_cons_zero, List.getElem?_cons_succ, List.getElem?_nil, den, dens, back, true_and, and_true, nrmE, nrmT, frzSlots, cutV1, frzT, frzL, eq_ii, eq_bb, eq_ss, eq_nn, D.isNon, o_add, o_adds, o_addl, o_sub, o_addt, n_split, n_find, o_mul, o_rep, o_div, o_mod, o_pow, c_lt, c_le, c_gt, c_ge, c_lts, c_eq, c_ne, c_is, c_isnot, c_in, c_notin, t_bl, t_non, t_int, t_lst, t_tup, x_lst, x_tup, x_scr, x_str, u_lst, u_scr, u_str, b_lenl, b_lent, b_lenc, b_lens, b_abs, b_max2, b_min2, b_int, b_inb, b_tup, b_srtk, i_lst, i_tup, i_scr, is_n, is_b, exists_eq_left', exists_eq_left, exists_eq_right, Option.some.injEq,  partD, setS, setAll, tgD, tgSlots, wipeE, List.set_cons_zero, List.set_cons_succ, List.set_nil, List.take_nil, List.take_zero, m_f, m_t, r_int, r_bl, r_str, r_non, r_tup, r_lstf, r_lstt, r_v, r_newf, r_newt, List.any_cons, List.any_nil, owned, Bool.or_false, Bool.false_or, fl_bl, fl_int, fl_str, fl_non, fl_rs, exists_eq', Ct.lst.injEq, Ct.ob.injEq, D.kst.injEq, List.take_succ_cons, dat_lst, dat_ob, dat_fz, Option.some.injEq, SV.d.injEq, D.int.injEq, forall_eq', reduceCtorEq, false_implies, forall_const, Bool.false_eq_true, List.set, if_true, if_false, Bool.not_true, Bool.not_false]
    refine s_cell_at ?_
    simp only [fnT, startE, List.length_cons, List.length_nil, List.map_cons, List.map_nil, List.cons_append, List.nil_append, Nat.sub_self, Nat.reduceSub, Nat.reduceAdd, Nat.reduceLT, List.replicate_zero, List.reduceReplicate, List.replicate_succ, wpSs, wpS, wpE, wpEs, wpT, wpI, wpC, List.getElem?_cons_zero, List.getElem?_cons_succ, List.getElem?_nil, den, dens, back, true_and, and_true, nrmE, nrmT, frzSlots, cutV1, frzT, frzL, eq_ii, eq_bb, eq_ss, eq_nn, D.isNon, o_add, o_adds, o_addl, o_sub, o_addt, n_split, n_find, o_mul, o_rep, o_div, o_mod, o_pow, c_lt, c_le, c_gt, c_ge, c_lts, c_eq, c_ne, c_is, c_isnot, c_in, c_notin, t_bl, t_non, t_int, t_lst, t_tup, x_lst, x_tup, x_scr, x_str, u_lst, u_scr, u_str, b_lenl, b_lent, b_lenc, b_lens, b_abs, b_max2, b_min2, b_int, b_inb, b_tup, b_srtk, i_lst, i_tup, i_scr, is_n, is_b, exists_eq_left', exists_eq_left, exists_eq_right, Option.some.injEq,  partD, setS, setAll, tgD, tgSlots, wipeE, List.set_cons_zero, List.set_cons_succ, List.set_nil, List.take_nil, List.take_zero, m_f, m_t, r_int, r_bl, r_str, r_non, r_tup, r_lstf, r_lstt, r_v, r_newf, r_newt, List.any_cons, List.any_nil, owned, Bool.or_false, Bool.false_or, fl_bl, fl_int, fl_str, fl_non, fl_rs, exists_eq', Ct.lst.injEq, Ct.ob.injEq, D.kst.injEq, List.take_succ_cons, dat_lst, dat_ob, dat_fz, Option.some.injEq, SV.d.injEq, D.int.injEq, forall_eq', reduceCtorEq, false_implies, forall_const, Bool.false_eq_true, List.set, if_true, if_false, Bool.not_true, Bool.not_false]
    refine ⟨divOk_of (by decide) (by decide), mul_of 10 10 (by decide) (by omega) (by decide), ?_⟩
    refine s_mixed fun q q0 q1 => ?_
    simp only [fnT, startE, List.length_cons, List.length_nil, List.map_cons, List.map_nil, List.cons_append, List.nil_append, Nat.sub_self, Nat.reduceSub, Nat.reduceAdd, Nat.reduceLT, List.replicate_zero, List.reduceReplicate, List.replicate_succ, wpSs, wpS, wpE, wpEs, wpT, wpI, wpC, List.getElem?_cons_zero, List.getElem?_cons_succ, List.getElem?_nil, den, dens, back, true_and, and_true, nrmE, nrmT, frzSlots, cutV1, frzT, frzL, eq_ii, eq_bb, eq_ss, eq_nn, D.isNon, o_add, o_adds, o_addl, o_sub, o_addt, n_split, n_find, o_mul, o_rep, o_div, o_mod, o_pow, c_lt, c_le, c_gt, c_ge, c_lts, c_eq, c_ne, c_is, c_isnot, c_in, c_notin, t_bl, t_non, t_int, t_lst, t_tup, x_lst, x_tup, x_scr, x_str, u_lst, u_scr, u_str, b_lenl, b_lent, b_lenc, b_lens, b_abs, b_max2, b_min2, b_int, b_inb, b_tup, b_srtk, i_lst, i_tup, i_scr, is_n, is_b, exists_eq_left', exists_eq_left, exists_eq_right, Option.some.injEq,  partD, setS, setAll, tgD, tgSlots, wipeE, List.set_cons_zero, List.set_cons_succ, List.set_nil, List.take_nil, List.take_zero, m_f, m_t, r_int, r_bl, r_str, r_non, r_tup, r_lstf, r_lstt, r_v, r_newf, r_newt, List.any_cons, List.any_nil, owned, Bool.or_false, Bool.false_or, fl_bl, fl_int, fl_str, fl_non, fl_rs, exists_eq', Ct.lst.injEq, Ct.ob.injEq, D.kst.injEq, List.take_succ_cons, dat_lst, dat_ob, dat_fz, Option.some.injEq, SV.d.injEq, D.int.injEq, forall_eq', reduceCtorEq, false_implies, forall_const, Bool.false_eq_true, List.set, if_true, if_false, Bool.not_true, Bool.not_false]
    have mp : (0 : Int) < cs.length := by omega
    have l0 := Int.emod_nonneg q (show (cs.length : Int) ≠ 0 by omega)
    have l1 := Int.emod_lt_of_pos q mp
    refine ⟨mp, ?_⟩
    refine s_cell_at ?_
    simp only [fnT, startE, List.length_cons, List.length_nil, List.map_cons, List.map_nil, List.cons_append, List.nil_append, Nat.sub_self, Nat.reduceSub, Nat.reduceAdd, Nat.reduceLT, List.replicate_zero, List.reduceReplicate, List.replicate_succ, wpSs, wpS, wpE, wpEs, wpT, wpI, wpC, List.getElem?_cons_zero, List.getElem?_cons_succ, List.getElem?_nil, den, dens, back, true_and, and_true, nrmE, nrmT, frzSlots, cutV1, frzT, frzL, eq_ii, eq_bb, eq_ss, eq_nn, D.isNon, o_add, o_adds, o_addl, o_sub, o_addt, n_split, n_find, o_mul, o_rep, o_div, o_mod, o_pow, c_lt, c_le, c_gt, c_ge, c_lts, c_eq, c_ne, c_is, c_isnot, c_in, c_notin, t_bl, t_non, t_int, t_lst, t_tup, x_lst, x_tup, x_scr, x_str, u_lst, u_scr, u_str, b_lenl, b_lent, b_lenc, b_lens, b_abs, b_max2, b_min2, b_int, b_inb, b_tup, b_srtk, i_lst, i_tup, i_scr, is_n, is_b, exists_eq_left', exists_eq_left, exists_eq_right, Option.some.injEq,  partD, setS, setAll, tgD, tgSlots, wipeE, List.set_cons_zero, List.set_cons_succ, List.set_nil, List.take_nil, List.take_zero, m_f, m_t, r_int, r_bl, r_str, r_non, r_tup, r_lstf, r_lstt, r_v, r_newf, r_newt, List.any_cons, List.any_nil, owned, Bool.or_false, Bool.false_or, fl_bl, fl_int, fl_str, fl_non, fl_rs, exists_eq', Ct.lst.injEq, Ct.ob.injEq, D.kst.injEq, List.take_succ_cons, dat_lst, dat_ob, dat_fz, Option.some.injEq, SV.d.injEq, D.int.injEq, forall_eq', reduceCtorEq, false_implies, forall_const, Bool.false_eq_true, List.set, if_true, if_false, Bool.not_true, Bool.not_false]
    refine ⟨divOk_of (by decide) (by decide), by decide, fun _ => ?_, fun _ => ?_⟩
    · refine s_common mp hL ?_
      simp only [fnT, startE, List.length_cons, List.length_nil, List.map_cons, List.map_nil, List.cons_append, List.nil_append, Nat.sub_self, Nat.reduceSub, Nat.reduceAdd, Nat.reduceLT, List.replicate_zero, List.reduceReplicate, List.replicate_succ, wpSs, wpS, wpE, wpEs, wpT, wpI, wpC, List.getElem?_cons_zero, List.getElem?_cons_succ, List.getElem?_nil, den, dens, back, true_and, and_true, nrmE, nrmT, frzSlots, cutV1, frzT, frzL, eq_ii, eq_bb, eq_ss, eq_nn, D.isNon, o_add, o_adds, o_addl, o_sub, o_addt, n_split, n_find, o_mul, o_rep, o_div, o_mod, o_pow, c_lt, c_le, c_gt, c_ge, c_lts, c_eq, c_ne, c_is, c_isnot, c_in, c_notin, t_bl, t_non, t_int, t_lst, t_tup, x_lst, x_tup, x_scr, x_str, u_lst, u_scr, u_str, b_lenl, b_lent, b_lenc, b_lens, b_abs, b_max2, b_min2, b_int, b_inb, b_tup, b_srtk, i_lst, i_tup, i_scr, is_n, is_b, exists_eq_left', exists_eq_left, exists_eq_right, Option.some.injEq,  partD, setS, setAll, tgD, tgSlots, wipeE, List.set_cons_zero, List.set_cons_succ, List.set_nil, List.take_nil, List.take_zero, m_f, m_t, r_int, r_bl, r_str, r_non, r_tup, r_lstf, r_lstt, r_v, r_newf, r_newt, List.any_cons, List.any_nil, owned, Bool.or_false, Bool.false_or, fl_bl, fl_int, fl_str, fl_non, fl_rs, exists_eq', Ct.lst.injEq, Ct.ob.injEq, D.kst.injEq, List.take_succ_cons, dat_lst, dat_ob, dat_fz, Option.some.injEq, SV.d.injEq, D.int.injEq, forall_eq', reduceCtorEq, false_implies, forall_const, Bool.false_eq_true, List.set, if_true, if_false, Bool.not_true, Bool.not_false]
      have gle : ((gl ws (cs.length : Int) : Nat) : Int) ≤ cs.length := Int.le_of_dvd mp gl_m
      refine ⟨mul_of 10 10 (by omega) (by omega) (by decide), mp, ?_⟩
      refine s_check hc c3 c26 w3 w8 hL (Int.emod_nonneg _ (by omega)) (Int.emod_lt_of_pos _ mp) fun y6 y7 => ?_
      simp only [fnT, startE, List.length_cons, List.length_nil, List.map_cons, List.map_nil, List.cons_append, List.nil_append, Nat.sub_self, Nat.reduceSub, Nat.reduceAdd, Nat.reduceLT, List.replicate_zero, List.reduceReplicate, List.replicate_succ, wpSs, wpS, wpE, wpEs, wpT, wpI, wpC, List.getElem?_cons_zero, List.getElem?_cons_succ, List.getElem?_nil, den, dens, back, true_and, and_true, nrmE, nrmT, frzSlots, cutV1, frzT, frzL, eq_ii, eq_bb, eq_ss, eq_nn, D.isNon, o_add, o_adds, o_addl, o_sub, o_addt, n_split, n_find, o_mul, o_rep, o_div, o_mod, o_pow, c_lt, c_le, c_gt, c_ge, c_lts, c_eq, c_ne, c_is, c_isnot, c_in, c_notin, t_bl, t_non, t_int, t_lst, t_tup, x_lst, x_tup, x_scr, x_str, u_lst, u_scr, u_str, b_lenl, b_lent, b_lenc, b_lens, b_abs, b_max2, b_min2, b_int, b_inb, b_tup, b_srtk, i_lst, i_tup, i_scr, is_n, is_b, exists_eq_left', exists_eq_left, exists_eq_right, Option.some.injEq,  partD, setS, setAll, tgD, tgSlots, wipeE, List.set_cons_zero, List.set_cons_succ, List.set_nil, List.take_nil, List.take_zero, m_f, m_t, r_int, r_bl, r_str, r_non, r_tup, r_lstf, r_lstt, r_v, r_newf, r_newt, List.any_cons, List.any_nil, owned, Bool.or_false, Bool.false_or, fl_bl, fl_int, fl_str, fl_non, fl_rs, exists_eq', Ct.lst.injEq, Ct.ob.injEq, D.kst.injEq, List.take_succ_cons, dat_lst, dat_ob, dat_fz, Option.some.injEq, SV.d.injEq, D.int.injEq, forall_eq', reduceCtorEq, false_implies, forall_const, Bool.false_eq_true, List.set, if_true, if_false, Bool.not_true, Bool.not_false]
      exact ⟨_, _, _, _, _, _, _, rfl⟩
    · refine s_check hc c3 c26 w3 w8 hL l0 l1 fun y6 y7 => ?_
      simp only [fnT, startE, List.length_cons, List.length_nil, List.map_cons, List.map_nil, List.cons_append, List.nil_append, Nat.sub_self, Nat.reduceSub, Nat.reduceAdd, Nat.reduceLT, List.replicate_zero, List.reduceReplicate, List.replicate_succ, wpSs, wpS, wpE, wpEs, wpT, wpI, wpC, List.getElem?_cons_zero, List.getElem?_cons_succ, List.getElem?_nil, den, dens, back, true_and, and_true, nrmE, nrmT, frzSlots, cutV1, frzT, frzL, eq_ii, eq_bb, eq_ss, eq_nn, D.isNon, o_add, o_adds, o_addl, o_sub, o_addt, n_split, n_find, o_mul, o_rep, o_div, o_mod, o_pow, c_lt, c_le, c_gt, c_ge, c_lts, c_eq, c_ne, c_is, c_isnot, c_in, c_notin, t_bl, t_non, t_int, t_lst, t_tup, x_lst, x_tup, x_scr, x_str, u_lst, u_scr, u_str, b_lenl, b_lent, b_lenc, b_lens, b_abs, b_max2, b_min2, b_int, b_inb, b_tup, b_srtk, i_lst, i_tup, i_scr, is_n, is_b, exists_eq_left', exists_eq_left, exists_eq_right, Option.some.injEq,  partD, setS, setAll, tgD, tgSlots, wipeE, List.set_cons_zero, List.set_cons_succ, List.set_nil, List.take_nil, List.take_zero, m_f, m_t, r_int, r_bl, r_str, r_non, r_tup, r_lstf, r_lstt, r_v, r_newf, r_newt, List.any_cons, List.any_nil, owned, Bool.or_false, Bool.false_or, fl_bl, fl_int, fl_str, fl_non, fl_rs, exists_eq', Ct.lst.injEq, Ct.ob.injEq, D.kst.injEq, List.take_succ_cons, dat_lst, dat_ob, dat_fz, Option.some.injEq, SV.d.injEq, D.int.injEq, forall_eq', reduceCtorEq, false_implies, forall_const, Bool.false_eq_true, List.set, if_true, if_false, Bool.not_true, Bool.not_false]
      exact ⟨_, _, _, _, _, _, _, rfl⟩
  · rintro e l ⟨rfl, x1, x2, x3, x4, x5, x6, x7, rfl⟩
    exact h
theorem law_true (ns : List Int) (h1 : ns.length ≤ 63) (h2 : ∀ z ∈ ns, Builtin.Int.intBits z ≤ 1048576) : wpF fnT gcT 8 21 [.scr ns] (fun r => r = .v (.bl true)) (fun _ => False) := s_law (n := 3) h1 rfl
end K03

namespace K03
open PySem L2 PD
def nmT : Nat → Str
  | 0 => "divisor"
  | 1 => "fits_behind"
  | 2 => "are_safe"
  | 3 => "reached"
  | 4 => "first_good"
  | 5 => "shared_part"
  | 6 => "exchanged_pair"
  | 7 => "swapped_pair"
  | 8 => "unsafe_pair"
  | 9 => "_law_cell_at"
  | 10 => "_law_mixed"
  | 11 => "_law_alphabet"
  | 12 => "_law_apart"
  | 13 => "_law_safe"
  | 14 => "_law_weights"
  | 15 => "_law_digits"
  | 16 => "_law_some_weights"
  | 17 => "_law_sum"
  | 18 => "_law_common"
  | 19 => "_law_is_good"
  | 20 => "_law_one_fault"
  | 21 => "law"
  | _ => ""
def psT : Nat → List Str
  | 0 => ["one", "other"]
  | 1 => ["weights", "weight", "m"]
  | 2 => ["weights", "m"]
  | 3 => ["weights", "m"]
  | 4 => ["weights", "rest", "m"]
  | 5 => ["number", "m"]
  | 6 => ["weights", "rest", "m"]
  | 7 => ["weights", "rest", "m"]
  | 8 => ["alphabet", "weights", "rest"]
  | 9 => ["_law_script", "_law_k"]
  | 10 => ["_law_cell"]
  | 11 => ["_law_cell"]
  | 12 => ["_law_number", "_law_m"]
  | 13 => ["_law_weights_here", "_law_m"]
  | 14 => ["_law_cell", "_law_m", "_law_many"]
  | 15 => ["_law_number", "_law_m", "_law_many"]
  | 16 => ["_law_cell", "_law_m"]
  | 17 => ["_law_weights_here", "_law_places"]
  | 18 => ["_law_weights_here", "_law_m"]
  | 19 => ["_law_alphabet_here", "_law_weights_here", "_law_rest", "_law_word"]
  | 20 => ["_law_one", "_law_other"]
  | 21 => ["_law_script"]
  | _ => []
def gnT : Nat → Str
  | _ => ""
def prT (K : PySem.W.Frag) : PD.Pr := ⟨⟨K, fun _ => 0, fun _ => ""⟩, fnT, nmT, psT, gcT, gnT, 0⟩
def N0 : List Str := ["one", "other"]
theorem sc0 : FnScope N0 (psT 0) (defScope (top 1)) := ⟨rfl, rfl, rfl, by decide +kernel, rfl, by decide +kernel, by decide +kernel⟩
theorem m0 (K : PySem.W.Frag) : mSs (prT K) f0.body ⟨N0, defScope (top 1), fun _ => true⟩ (defBody (top 1)) = true := by kernel_rfl
def d0 : He.DefD := ⟨("divisor", none), "divisor", "divisor", defArgs (top 1), defBody (top 1), defScope (top 1), [], []⟩
def N1 : List Str := ["weights", "weight", "m"]
theorem sc1 : FnScope N1 (psT 1) (defScope (top 2)) := ⟨rfl, rfl, rfl, by decide +kernel, rfl, by decide +kernel, by decide +kernel⟩
theorem m1 (K : PySem.W.Frag) : mSs (prT K) f1.body ⟨N1, defScope (top 2), fun _ => true⟩ (defBody (top 2)) = true := by kernel_rfl
def d1 : He.DefD := ⟨("fits_behind", none), "fits_behind", "fits_behind", defArgs (top 2), defBody (top 2), defScope (top 2), [], []⟩
def N2 : List Str := ["weights", "m", "k", "weight"]
theorem sc2 : FnScope N2 (psT 2) (defScope (top 3)) := ⟨rfl, rfl, rfl, by decide +kernel, rfl, by decide +kernel, by decide +kernel⟩
theorem m2 (K : PySem.W.Frag) : mSs (prT K) f2.body ⟨N2, defScope (top 3), fun _ => true⟩ (defBody (top 3)) = true := by kernel_rfl
def d2 : He.DefD := ⟨("are_safe", none), "are_safe", "are_safe", defArgs (top 3), defBody (top 3), defScope (top 3), [], []⟩
def N3 : List Str := ["weights", "m", "found", "weight", "some", "left", "place"]
theorem sc3 : FnScope N3 (psT 3) (defScope (top 5)) := ⟨rfl, rfl, rfl, by decide +kernel, rfl, by decide +kernel, by decide +kernel⟩
theorem m3 (K : PySem.W.Frag) : mSs (prT K) f3.body ⟨N3, defScope (top 5), fun _ => true⟩ (defBody (top 5)) = true := by kernel_rfl
def d3 : He.DefD := ⟨("reached", none), "reached", "reached", defArgs (top 5), defBody (top 5), defScope (top 5), [], []⟩
def N4 : List Str := ["weights", "rest", "m", "ways", "left", "found", "k", "weight", "some", "place"]
theorem sc4 : FnScope N4 (psT 4) (defScope (top 6)) := ⟨rfl, rfl, rfl, by decide +kernel, rfl, by decide +kernel, by decide +kernel⟩
theorem m4 (K : PySem.W.Frag) : mSs (prT K) f4.body ⟨N4, defScope (top 6), fun _ => true⟩ (defBody (top 6)) = true := by kernel_rfl
def d4 : He.DefD := ⟨("first_good", none), "first_good", "first_good", defArgs (top 6), defBody (top 6), defScope (top 6), [], []⟩
def N5 : List Str := ["number", "m", "part"]
theorem sc5 : FnScope N5 (psT 5) (defScope (top 7)) := ⟨rfl, rfl, rfl, by decide +kernel, rfl, by decide +kernel, by decide +kernel⟩
theorem m5 (K : PySem.W.Frag) : mSs (prT K) f5.body ⟨N5, defScope (top 7), fun _ => true⟩ (defBody (top 7)) = true := by kernel_rfl
def d5 : He.DefD := ⟨("shared_part", none), "shared_part", "shared_part", defArgs (top 7), defBody (top 7), defScope (top 7), [], []⟩
def N6 : List Str := ["weights", "rest", "m", "first", "k", "weight", "part"]
theorem sc6 : FnScope N6 (psT 6) (defScope (top 8)) := ⟨rfl, rfl, rfl, by decide +kernel, rfl, by decide +kernel, by decide +kernel⟩
theorem m6 (K : PySem.W.Frag) : mSs (prT K) f6.body ⟨N6, defScope (top 8), fun _ => true⟩ (defBody (top 8)) = true := by kernel_rfl
def d6 : He.DefD := ⟨("exchanged_pair", none), "exchanged_pair", "exchanged_pair", defArgs (top 8), defBody (top 8), defScope (top 8), [], []⟩
def N7 : List Str := ["weights", "rest", "m", "k", "part", "places", "other", "p"]
theorem sc7 : FnScope N7 (psT 7) (defScope (top 9)) := ⟨rfl, rfl, rfl, by decide +kernel, rfl, by decide +kernel, by decide +kernel⟩
theorem m7 (K : PySem.W.Frag) : mSs (prT K) f7.body ⟨N7, defScope (top 9), fun _ => true⟩ (defBody (top 9)) = true := by kernel_rfl
def d7 : He.DefD := ⟨("swapped_pair", none), "swapped_pair", "swapped_pair", defArgs (top 9), defBody (top 9), defScope (top 9), [], []⟩
def N8 : List Str := ["alphabet", "weights", "rest", "m", "pair", "weight", "places", "place"]
theorem sc8 : FnScope N8 (psT 8) (defScope (top 10)) := ⟨rfl, rfl, rfl, by decide +kernel, rfl, by decide +kernel, by decide +kernel⟩
theorem m8 (K : PySem.W.Frag) : mSs (prT K) f8.body ⟨N8, defScope (top 10), fun _ => true⟩ (defBody (top 10)) = true := by kernel_rfl
def d8 : He.DefD := ⟨("unsafe_pair", none), "unsafe_pair", "unsafe_pair", defArgs (top 10), defBody (top 10), defScope (top 10), [], []⟩
def N9 : List Str := ["_law_script", "_law_k"]
theorem sc9 : FnScope N9 (psT 9) (defScope (top 12)) := ⟨rfl, rfl, rfl, by decide +kernel, rfl, by decide +kernel, by decide +kernel⟩
theorem m9 (K : PySem.W.Frag) : mSs (prT K) f9.body ⟨N9, defScope (top 12), fun _ => true⟩ (defBody (top 12)) = true := by kernel_rfl
def d9 : He.DefD := ⟨("_law_cell_at", none), "_law_cell_at", "_law_cell_at", defArgs (top 12), defBody (top 12), defScope (top 12), [], []⟩
def N10 : List Str := ["_law_cell", "_law_many"]
theorem sc10 : FnScope N10 (psT 10) (defScope (top 13)) := ⟨rfl, rfl, rfl, by decide +kernel, rfl, by decide +kernel, by decide +kernel⟩
theorem m10 (K : PySem.W.Frag) : mSs (prT K) f10.body ⟨N10, defScope (top 13), fun _ => true⟩ (defBody (top 13)) = true := by kernel_rfl
def d10 : He.DefD := ⟨("_law_mixed", none), "_law_mixed", "_law_mixed", defArgs (top 13), defBody (top 13), defScope (top 13), [], []⟩
def N11 : List Str := ["_law_cell", "_law_some", "_law_many", "_law_step", "_law_k"]
theorem sc11 : FnScope N11 (psT 11) (defScope (top 14)) := ⟨rfl, rfl, rfl, by decide +kernel, rfl, by decide +kernel, by decide +kernel⟩
theorem m11 (K : PySem.W.Frag) : mSs (prT K) f11.body ⟨N11, defScope (top 14), fun _ => true⟩ (defBody (top 14)) = true := by kernel_rfl
def d11 : He.DefD := ⟨("_law_alphabet", none), "_law_alphabet", "_law_alphabet", defArgs (top 14), defBody (top 14), defScope (top 14), [], []⟩
def N12 : List Str := ["_law_number", "_law_m"]
theorem sc12 : FnScope N12 (psT 12) (defScope (top 15)) := ⟨rfl, rfl, rfl, by decide +kernel, rfl, by decide +kernel, by decide +kernel⟩
theorem m12 (K : PySem.W.Frag) : mSs (prT K) f12.body ⟨N12, defScope (top 15), fun _ => true⟩ (defBody (top 15)) = true := by kernel_rfl
def d12 : He.DefD := ⟨("_law_apart", none), "_law_apart", "_law_apart", defArgs (top 15), defBody (top 15), defScope (top 15), [], []⟩
def N13 : List Str := ["_law_weights_here", "_law_m", "_law_k"]
theorem sc13 : FnScope N13 (psT 13) (defScope (top 16)) := ⟨rfl, rfl, rfl, by decide +kernel, rfl, by decide +kernel, by decide +kernel⟩
theorem m13 (K : PySem.W.Frag) : mSs (prT K) f13.body ⟨N13, defScope (top 16), fun _ => true⟩ (defBody (top 16)) = true := by kernel_rfl
def d13 : He.DefD := ⟨("_law_safe", none), "_law_safe", "_law_safe", defArgs (top 16), defBody (top 16), defScope (top 16), [], []⟩
def N14 : List Str := ["_law_cell", "_law_m", "_law_many", "_law_found", "_law_k", "_law_some", "_law_w"]
theorem sc14 : FnScope N14 (psT 14) (defScope (top 17)) := ⟨rfl, rfl, rfl, by decide +kernel, rfl, by decide +kernel, by decide +kernel⟩
theorem m14 (K : PySem.W.Frag) : mSs (prT K) f14.body ⟨N14, defScope (top 17), fun _ => true⟩ (defBody (top 17)) = true := by kernel_rfl
def d14 : He.DefD := ⟨("_law_weights", none), "_law_weights", "_law_weights", defArgs (top 17), defBody (top 17), defScope (top 17), [], []⟩
def N15 : List Str := ["_law_number", "_law_m", "_law_many", "_law_found", "_law_k"]
theorem sc15 : FnScope N15 (psT 15) (defScope (top 18)) := ⟨rfl, rfl, rfl, by decide +kernel, rfl, by decide +kernel, by decide +kernel⟩
theorem m15 (K : PySem.W.Frag) : mSs (prT K) f15.body ⟨N15, defScope (top 18), fun _ => true⟩ (defBody (top 18)) = true := by kernel_rfl
def d15 : He.DefD := ⟨("_law_digits", none), "_law_digits", "_law_digits", defArgs (top 18), defBody (top 18), defScope (top 18), [], []⟩
def N16 : List Str := ["_law_cell", "_law_m", "_law_number", "_law_weights_here", "_law_at"]
theorem sc16 : FnScope N16 (psT 16) (defScope (top 19)) := ⟨rfl, rfl, rfl, by decide +kernel, rfl, by decide +kernel, by decide +kernel⟩
theorem m16 (K : PySem.W.Frag) : mSs (prT K) f16.body ⟨N16, defScope (top 19), fun _ => true⟩ (defBody (top 19)) = true := by kernel_rfl
def d16 : He.DefD := ⟨("_law_some_weights", none), "_law_some_weights", "_law_some_weights", defArgs (top 19), defBody (top 19), defScope (top 19), [], []⟩
def N17 : List Str := ["_law_weights_here", "_law_places", "_law_found", "_law_k"]
theorem sc17 : FnScope N17 (psT 17) (defScope (top 20)) := ⟨rfl, rfl, rfl, by decide +kernel, rfl, by decide +kernel, by decide +kernel⟩
theorem m17 (K : PySem.W.Frag) : mSs (prT K) f17.body ⟨N17, defScope (top 20), fun _ => true⟩ (defBody (top 20)) = true := by kernel_rfl
def d17 : He.DefD := ⟨("_law_sum", none), "_law_sum", "_law_sum", defArgs (top 20), defBody (top 20), defScope (top 20), [], []⟩
def N18 : List Str := ["_law_weights_here", "_law_m", "_law_weight"]
theorem sc18 : FnScope N18 (psT 18) (defScope (top 21)) := ⟨rfl, rfl, rfl, by decide +kernel, rfl, by decide +kernel, by decide +kernel⟩
theorem m18 (K : PySem.W.Frag) : mSs (prT K) f18.body ⟨N18, defScope (top 21), fun _ => true⟩ (defBody (top 21)) = true := by kernel_rfl
def d18 : He.DefD := ⟨("_law_common", none), "_law_common", "_law_common", defArgs (top 21), defBody (top 21), defScope (top 21), [], []⟩
def N19 : List Str := ["_law_alphabet_here", "_law_weights_here", "_law_rest", "_law_word", "_law_places", "_law_letter"]
theorem sc19 : FnScope N19 (psT 19) (defScope (top 22)) := ⟨rfl, rfl, rfl, by decide +kernel, rfl, by decide +kernel, by decide +kernel⟩
theorem m19 (K : PySem.W.Frag) : mSs (prT K) f19.body ⟨N19, defScope (top 22), fun _ => true⟩ (defBody (top 22)) = true := by kernel_rfl
def d19 : He.DefD := ⟨("_law_is_good", none), "_law_is_good", "_law_is_good", defArgs (top 22), defBody (top 22), defScope (top 22), [], []⟩
def N20 : List Str := ["_law_one", "_law_other", "_law_unlike", "_law_k"]
theorem sc20 : FnScope N20 (psT 20) (defScope (top 23)) := ⟨rfl, rfl, rfl, by decide +kernel, rfl, by decide +kernel, by decide +kernel⟩
theorem m20 (K : PySem.W.Frag) : mSs (prT K) f20.body ⟨N20, defScope (top 23), fun _ => true⟩ (defBody (top 23)) = true := by kernel_rfl
def d20 : He.DefD := ⟨("_law_one_fault", none), "_law_one_fault", "_law_one_fault", defArgs (top 23), defBody (top 23), defScope (top 23), [], []⟩
def N21 : List Str := ["_law_script", "_law_k", "_law_alphabet_here", "_law_m", "_law_weights_here", "_law_rest", "_law_handed", "_law_found"]
theorem sc21 : FnScope N21 (psT 21) (defScope (top 24)) := ⟨rfl, rfl, rfl, by decide +kernel, rfl, by decide +kernel, by decide +kernel⟩
theorem m21 (K : PySem.W.Frag) : mSs (prT K) f21.body ⟨N21, defScope (top 24), fun _ => true⟩ (defBody (top 24)) = true := by kernel_rfl
def d21 : He.DefD := ⟨("law", none), "law", "law", defArgs (top 24), defBody (top 24), defScope (top 24), [], []⟩
def dds : List He.DefD := [d0, d1, d2, d3, d4, d5, d6, d7, d8, d9, d10, d11, d12, d13, d14, d15, d16, d17, d18, d19, d20, d21]
def fas0 : List He.Fa := [.glo "divisor", .glo "fits_behind", .glo "are_safe", .glo "reached", .glo "first_good", .glo "shared_part", .glo "exchanged_pair", .glo "swapped_pair", .glo "unsafe_pair", .glo "_law_cell_at", .glo "_law_mixed", .glo "_law_alphabet", .glo "_law_apart", .glo "_law_safe", .glo "_law_weights", .glo "_law_digits", .glo "_law_some_weights", .glo "_law_sum", .glo "_law_common", .glo "_law_is_good", .glo "_law_one_fault", .glo "law", .free "len", .free "abs", .free "min", .free "max", .free "sum", .free "all", .free "int", .free "str"]
def fas1 : List He.Fa := [.free "sorted", .free "tuple", .free "divmod", .free "set", .free "isinstance", .free "bool", .free "list", .free "dict", .free "range", .free "enumerate", .free "zip", .free "reversed"]
def fas : List He.Fa := fas0 ++ fas1
abbrev R : PySem.W.OpenRow := PySem.W.OpenLaw.row PySem.Challenge.rw_cablehouse_k03_pairs_a_fault_apart
abbrev hk : PySem.W.Hook := He.hookD 4 fas dds
def ob (s : PySem.W.SharedT) : He.AlD := He.obsDG 4 fas dds (HandSHeadRun.getT s)
theorem ob_eq (s : PySem.W.SharedT) : ob s = hk.obs s.abs := He.obsDG_eq (HandSHeadRun.getT_eq s)
def loo0 : List PySem.Str := ["divisor", "fits_behind", "are_safe", "reached", "first_good", "shared_part", "exchanged_pair", "swapped_pair", "unsafe_pair", "_law_cell_at", "_law_mixed", "_law_alphabet", "_law_apart", "_law_safe", "_law_weights", "_law_digits", "_law_some_weights", "_law_sum", "_law_common", "_law_is_good", "_law_one_fault"]
def loo : List PySem.Str := loo0
theorem run (w : World) : HandSHeadRun.RunEq R (PySem.W.view R.prog [24]) hk ob 1400 loo w := by
  intro os
  kernel_rfl
theorem facts {P : Program} {w : World} {K : PySem.W.Frag} {h : Heap} {mg : Str → Option Value} {f : Addr} (X : K.In h) (G : h.Ns mainGlobals mg) (hfa : mg ("law" : Str) = some (.ref f)) (c : He.SaysD fas dds K) :
    ∃ fd : FuncData, (∀ (s : Shared) (v : Value), BindsTo s fd ⟨[v], []⟩ [("_law_script", v)]) ∧ ∀ base : Heap, K.In base → base.Ns mainGlobals mg → FnOk P w K mg base (L2.CX P w) 8 f fd ["_law_script"] (spF (prT K).G (wpF fnT gcT 8) 21) := by
  obtain ⟨g0, F0⟩ := c.def_ 0 (d := d0) rfl
  have i0 : DefIn P K mg (prT K) 0 f0 "divisor" "divisor" _ _ _ N0 _ g0 := ⟨He.glo_ok X G (c.fact 0 (f := .glo "divisor") rfl), F0, F0.bindsN fun _ _ _ _ _ _ us hl => match us, hl with | [_, _], _ => rfl, sc0, rfl, rfl, m0 K⟩
  obtain ⟨g1, F1⟩ := c.def_ 1 (d := d1) rfl
  have i1 : DefIn P K mg (prT K) 1 f1 "fits_behind" "fits_behind" _ _ _ N1 _ g1 := ⟨He.glo_ok X G (c.fact 1 (f := .glo "fits_behind") rfl), F1, F1.bindsN fun _ _ _ _ _ _ us hl => match us, hl with | [_, _, _], _ => rfl, sc1, rfl, rfl, m1 K⟩
  obtain ⟨g2, F2⟩ := c.def_ 2 (d := d2) rfl
  have i2 : DefIn P K mg (prT K) 2 f2 "are_safe" "are_safe" _ _ _ N2 _ g2 := ⟨He.glo_ok X G (c.fact 2 (f := .glo "are_safe") rfl), F2, F2.bindsN fun _ _ _ _ _ _ us hl => match us, hl with | [_, _], _ => rfl, sc2, rfl, rfl, m2 K⟩
  obtain ⟨g3, F3⟩ := c.def_ 3 (d := d3) rfl
  have i3 : DefIn P K mg (prT K) 3 f3 "reached" "reached" _ _ _ N3 _ g3 := ⟨He.glo_ok X G (c.fact 3 (f := .glo "reached") rfl), F3, F3.bindsN fun _ _ _ _ _ _ us hl => match us, hl with | [_, _], _ => rfl, sc3, rfl, rfl, m3 K⟩
  obtain ⟨g4, F4⟩ := c.def_ 4 (d := d4) rfl
  have i4 : DefIn P K mg (prT K) 4 f4 "first_good" "first_good" _ _ _ N4 _ g4 := ⟨He.glo_ok X G (c.fact 4 (f := .glo "first_good") rfl), F4, F4.bindsN fun _ _ _ _ _ _ us hl => match us, hl with | [_, _, _], _ => rfl, sc4, rfl, rfl, m4 K⟩
  obtain ⟨g5, F5⟩ := c.def_ 5 (d := d5) rfl
  have i5 : DefIn P K mg (prT K) 5 f5 "shared_part" "shared_part" _ _ _ N5 _ g5 := ⟨He.glo_ok X G (c.fact 5 (f := .glo "shared_part") rfl), F5, F5.bindsN fun _ _ _ _ _ _ us hl => match us, hl with | [_, _], _ => rfl, sc5, rfl, rfl, m5 K⟩
  obtain ⟨g6, F6⟩ := c.def_ 6 (d := d6) rfl
  have i6 : DefIn P K mg (prT K) 6 f6 "exchanged_pair" "exchanged_pair" _ _ _ N6 _ g6 := ⟨He.glo_ok X G (c.fact 6 (f := .glo "exchanged_pair") rfl), F6, F6.bindsN fun _ _ _ _ _ _ us hl => match us, hl with | [_, _, _], _ => rfl, sc6, rfl, rfl, m6 K⟩
  obtain ⟨g7, F7⟩ := c.def_ 7 (d := d7) rfl
  have i7 : DefIn P K mg (prT K) 7 f7 "swapped_pair" "swapped_pair" _ _ _ N7 _ g7 := ⟨He.glo_ok X G (c.fact 7 (f := .glo "swapped_pair") rfl), F7, F7.bindsN fun _ _ _ _ _ _ us hl => match us, hl with | [_, _, _], _ => rfl, sc7, rfl, rfl, m7 K⟩
  obtain ⟨g8, F8⟩ := c.def_ 8 (d := d8) rfl
  have i8 : DefIn P K mg (prT K) 8 f8 "unsafe_pair" "unsafe_pair" _ _ _ N8 _ g8 := ⟨He.glo_ok X G (c.fact 8 (f := .glo "unsafe_pair") rfl), F8, F8.bindsN fun _ _ _ _ _ _ us hl => match us, hl with | [_, _, _], _ => rfl, sc8, rfl, rfl, m8 K⟩
  obtain ⟨g9, F9⟩ := c.def_ 9 (d := d9) rfl
  have i9 : DefIn P K mg (prT K) 9 f9 "_law_cell_at" "_law_cell_at" _ _ _ N9 _ g9 := ⟨He.glo_ok X G (c.fact 9 (f := .glo "_law_cell_at") rfl), F9, F9.bindsN fun _ _ _ _ _ _ us hl => match us, hl with | [_, _], _ => rfl, sc9, rfl, rfl, m9 K⟩
  obtain ⟨g10, F10⟩ := c.def_ 10 (d := d10) rfl
  have i10 : DefIn P K mg (prT K) 10 f10 "_law_mixed" "_law_mixed" _ _ _ N10 _ g10 := ⟨He.glo_ok X G (c.fact 10 (f := .glo "_law_mixed") rfl), F10, F10.bindsN fun _ _ _ _ _ _ us hl => match us, hl with | [_], _ => rfl, sc10, rfl, rfl, m10 K⟩
  obtain ⟨g11, F11⟩ := c.def_ 11 (d := d11) rfl
  have i11 : DefIn P K mg (prT K) 11 f11 "_law_alphabet" "_law_alphabet" _ _ _ N11 _ g11 := ⟨He.glo_ok X G (c.fact 11 (f := .glo "_law_alphabet") rfl), F11, F11.bindsN fun _ _ _ _ _ _ us hl => match us, hl with | [_], _ => rfl, sc11, rfl, rfl, m11 K⟩
  obtain ⟨g12, F12⟩ := c.def_ 12 (d := d12) rfl
  have i12 : DefIn P K mg (prT K) 12 f12 "_law_apart" "_law_apart" _ _ _ N12 _ g12 := ⟨He.glo_ok X G (c.fact 12 (f := .glo "_law_apart") rfl), F12, F12.bindsN fun _ _ _ _ _ _ us hl => match us, hl with | [_, _], _ => rfl, sc12, rfl, rfl, m12 K⟩
  obtain ⟨g13, F13⟩ := c.def_ 13 (d := d13) rfl
  have i13 : DefIn P K mg (prT K) 13 f13 "_law_safe" "_law_safe" _ _ _ N13 _ g13 := ⟨He.glo_ok X G (c.fact 13 (f := .glo "_law_safe") rfl), F13, F13.bindsN fun _ _ _ _ _ _ us hl => match us, hl with | [_, _], _ => rfl, sc13, rfl, rfl, m13 K⟩
  obtain ⟨g14, F14⟩ := c.def_ 14 (d := d14) rfl
  have i14 : DefIn P K mg (prT K) 14 f14 "_law_weights" "_law_weights" _ _ _ N14 _ g14 := ⟨He.glo_ok X G (c.fact 14 (f := .glo "_law_weights") rfl), F14, F14.bindsN fun _ _ _ _ _ _ us hl => match us, hl with | [_, _, _], _ => rfl, sc14, rfl, rfl, m14 K⟩
  obtain ⟨g15, F15⟩ := c.def_ 15 (d := d15) rfl
  have i15 : DefIn P K mg (prT K) 15 f15 "_law_digits" "_law_digits" _ _ _ N15 _ g15 := ⟨He.glo_ok X G (c.fact 15 (f := .glo "_law_digits") rfl), F15, F15.bindsN fun _ _ _ _ _ _ us hl => match us, hl with | [_, _, _], _ => rfl, sc15, rfl, rfl, m15 K⟩
  obtain ⟨g16, F16⟩ := c.def_ 16 (d := d16) rfl
  have i16 : DefIn P K mg (prT K) 16 f16 "_law_some_weights" "_law_some_weights" _ _ _ N16 _ g16 := ⟨He.glo_ok X G (c.fact 16 (f := .glo "_law_some_weights") rfl), F16, F16.bindsN fun _ _ _ _ _ _ us hl => match us, hl with | [_, _], _ => rfl, sc16, rfl, rfl, m16 K⟩
  obtain ⟨g17, F17⟩ := c.def_ 17 (d := d17) rfl
  have i17 : DefIn P K mg (prT K) 17 f17 "_law_sum" "_law_sum" _ _ _ N17 _ g17 := ⟨He.glo_ok X G (c.fact 17 (f := .glo "_law_sum") rfl), F17, F17.bindsN fun _ _ _ _ _ _ us hl => match us, hl with | [_, _], _ => rfl, sc17, rfl, rfl, m17 K⟩
  obtain ⟨g18, F18⟩ := c.def_ 18 (d := d18) rfl
  have i18 : DefIn P K mg (prT K) 18 f18 "_law_common" "_law_common" _ _ _ N18 _ g18 := ⟨He.glo_ok X G (c.fact 18 (f := .glo "_law_common") rfl), F18, F18.bindsN fun _ _ _ _ _ _ us hl => match us, hl with | [_, _], _ => rfl, sc18, rfl, rfl, m18 K⟩
  obtain ⟨g19, F19⟩ := c.def_ 19 (d := d19) rfl
  have i19 : DefIn P K mg (prT K) 19 f19 "_law_is_good" "_law_is_good" _ _ _ N19 _ g19 := ⟨He.glo_ok X G (c.fact 19 (f := .glo "_law_is_good") rfl), F19, F19.bindsN fun _ _ _ _ _ _ us hl => match us, hl with | [_, _, _, _], _ => rfl, sc19, rfl, rfl, m19 K⟩
  obtain ⟨g20, F20⟩ := c.def_ 20 (d := d20) rfl
  have i20 : DefIn P K mg (prT K) 20 f20 "_law_one_fault" "_law_one_fault" _ _ _ N20 _ g20 := ⟨He.glo_ok X G (c.fact 20 (f := .glo "_law_one_fault") rfl), F20, F20.bindsN fun _ _ _ _ _ _ us hl => match us, hl with | [_, _], _ => rfl, sc20, rfl, rfl, m20 K⟩
  obtain ⟨g21, F21⟩ := c.def_ 21 (d := d21) rfl
  have i21 : DefIn P K mg (prT K) 21 f21 "law" "law" _ _ _ N21 _ g21 := ⟨He.glo_ok X G (c.fact 21 (f := .glo "law") rfl), F21, F21.bindsN fun _ _ _ _ _ _ us hl => match us, hl with | [_], _ => rfl, sc21, rfl, rfl, m21 K⟩
  have e := hfa.symm.trans i21.g
  cases e
  refine ⟨g21, fun s v => FunD.bindsA (ps := psT 21) F21 (fun _ _ _ _ _ _ us hl => match us, hl with | [_], _ => rfl) s [v] rfl, fun base _ _ => ?_⟩
  refine body_ok (pr := prT K) (n := 7) rfl rfl i21 (defs_ok (pr := prT K) rfl ?_ ?_ ?_ 7) ?_ ?_
  · intro f F hF
    match f, hF with
    | 0, hF => cases hF; exact ⟨_, _, _, _, _, _, _, _, i0⟩
    | 1, hF => cases hF; exact ⟨_, _, _, _, _, _, _, _, i1⟩
    | 2, hF => cases hF; exact ⟨_, _, _, _, _, _, _, _, i2⟩
    | 3, hF => cases hF; exact ⟨_, _, _, _, _, _, _, _, i3⟩
    | 4, hF => cases hF; exact ⟨_, _, _, _, _, _, _, _, i4⟩
    | 5, hF => cases hF; exact ⟨_, _, _, _, _, _, _, _, i5⟩
    | 6, hF => cases hF; exact ⟨_, _, _, _, _, _, _, _, i6⟩
    | 7, hF => cases hF; exact ⟨_, _, _, _, _, _, _, _, i7⟩
    | 8, hF => cases hF; exact ⟨_, _, _, _, _, _, _, _, i8⟩
    | 9, hF => cases hF; exact ⟨_, _, _, _, _, _, _, _, i9⟩
    | 10, hF => cases hF; exact ⟨_, _, _, _, _, _, _, _, i10⟩
    | 11, hF => cases hF; exact ⟨_, _, _, _, _, _, _, _, i11⟩
    | 12, hF => cases hF; exact ⟨_, _, _, _, _, _, _, _, i12⟩
    | 13, hF => cases hF; exact ⟨_, _, _, _, _, _, _, _, i13⟩
    | 14, hF => cases hF; exact ⟨_, _, _, _, _, _, _, _, i14⟩
    | 15, hF => cases hF; exact ⟨_, _, _, _, _, _, _, _, i15⟩
    | 16, hF => cases hF; exact ⟨_, _, _, _, _, _, _, _, i16⟩
    | 17, hF => cases hF; exact ⟨_, _, _, _, _, _, _, _, i17⟩
    | 18, hF => cases hF; exact ⟨_, _, _, _, _, _, _, _, i18⟩
    | 19, hF => cases hF; exact ⟨_, _, _, _, _, _, _, _, i19⟩
    | 20, hF => cases hF; exact ⟨_, _, _, _, _, _, _, _, i20⟩
    | 21, hF => cases hF; exact ⟨_, _, _, _, _, _, _, _, i21⟩
    | n + 22, hF => cases hF
  · exact fun x hx => by
      simp only [bltNames, List.mem_cons, List.not_mem_nil, or_false] at hx
      rcases hx with rfl | rfl | rfl | rfl | rfl | rfl | rfl | rfl | rfl | rfl | rfl | rfl | rfl | rfl | rfl | rfl | rfl | rfl | rfl | rfl
      · exact He.free_ok X G (c.fact 22 (f := .free "len") rfl)
      · exact He.free_ok X G (c.fact 23 (f := .free "abs") rfl)
      · exact He.free_ok X G (c.fact 24 (f := .free "min") rfl)
      · exact He.free_ok X G (c.fact 25 (f := .free "max") rfl)
      · exact He.free_ok X G (c.fact 26 (f := .free "sum") rfl)
      · exact He.free_ok X G (c.fact 27 (f := .free "all") rfl)
      · exact He.free_ok X G (c.fact 28 (f := .free "int") rfl)
      · exact He.free_ok X G (c.fact 29 (f := .free "str") rfl)
      · exact He.free_ok X G (c.fact 30 (f := .free "sorted") rfl)
      · exact He.free_ok X G (c.fact 31 (f := .free "tuple") rfl)
      · exact He.free_ok X G (c.fact 32 (f := .free "divmod") rfl)
      · exact He.free_ok X G (c.fact 33 (f := .free "set") rfl)
      · exact He.free_ok X G (c.fact 34 (f := .free "isinstance") rfl)
      · exact He.free_ok X G (c.fact 35 (f := .free "bool") rfl)
      · exact He.free_ok X G (c.fact 36 (f := .free "list") rfl)
      · exact He.free_ok X G (c.fact 37 (f := .free "dict") rfl)
      · exact He.free_ok X G (c.fact 38 (f := .free "range") rfl)
      · exact He.free_ok X G (c.fact 39 (f := .free "enumerate") rfl)
      · exact He.free_ok X G (c.fact 40 (f := .free "zip") rfl)
      · exact He.free_ok X G (c.fact 41 (f := .free "reversed") rfl)
  · exact fun k hk => by
      match k, hk with
      | n + 0, h => exact absurd (show n + 0 < 0 from h) (by omega)
  · exact fun x hx => by
      simp only [bltNames, List.mem_cons, List.not_mem_nil, or_false] at hx
      rcases hx with rfl | rfl | rfl | rfl | rfl | rfl | rfl | rfl | rfl | rfl | rfl | rfl | rfl | rfl | rfl | rfl | rfl | rfl | rfl | rfl
      · exact He.free_ok X G (c.fact 22 (f := .free "len") rfl)
      · exact He.free_ok X G (c.fact 23 (f := .free "abs") rfl)
      · exact He.free_ok X G (c.fact 24 (f := .free "min") rfl)
      · exact He.free_ok X G (c.fact 25 (f := .free "max") rfl)
      · exact He.free_ok X G (c.fact 26 (f := .free "sum") rfl)
      · exact He.free_ok X G (c.fact 27 (f := .free "all") rfl)
      · exact He.free_ok X G (c.fact 28 (f := .free "int") rfl)
      · exact He.free_ok X G (c.fact 29 (f := .free "str") rfl)
      · exact He.free_ok X G (c.fact 30 (f := .free "sorted") rfl)
      · exact He.free_ok X G (c.fact 31 (f := .free "tuple") rfl)
      · exact He.free_ok X G (c.fact 32 (f := .free "divmod") rfl)
      · exact He.free_ok X G (c.fact 33 (f := .free "set") rfl)
      · exact He.free_ok X G (c.fact 34 (f := .free "isinstance") rfl)
      · exact He.free_ok X G (c.fact 35 (f := .free "bool") rfl)
      · exact He.free_ok X G (c.fact 36 (f := .free "list") rfl)
      · exact He.free_ok X G (c.fact 37 (f := .free "dict") rfl)
      · exact He.free_ok X G (c.fact 38 (f := .free "range") rfl)
      · exact He.free_ok X G (c.fact 39 (f := .free "enumerate") rfl)
      · exact He.free_ok X G (c.fact 40 (f := .free "zip") rfl)
      · exact He.free_ok X G (c.fact 41 (f := .free "reversed") rfl)
  · exact fun k hk => by
      match k, hk with
      | n + 0, h => exact absurd (show n + 0 < 0 from h) (by omega)
end K03
open PySem PySem.W PySem.Calls PyProof.Rows
theorem PySem.Challenge.cw_cablehouse_k03_pairs_a_fault_apart_holds : PySem.Challenge.rw_cablehouse_k03_pairs_a_fault_apart.Holds := by
  w_on; o_law
  refine HandSHeadRun.head_any (r := OpenLaw.row PySem.Challenge.rw_cablehouse_k03_pairs_a_fault_apart) (q := view (OpenLaw.row PySem.Challenge.rw_cablehouse_k03_pairs_a_fault_apart).prog [24]) (H := K03.hk) (ob := K03.ob) (M := 1400) (loose := K03.loo) (d := HandSHeadRun.topDef (OpenLaw.row PySem.Challenge.rw_cablehouse_k03_pairs_a_fault_apart).prog 24) (kwd := []) K03.ob_eq
    (by kernel_rfl) (fun s => by kernel_rfl) K03.run (by kernel_rfl) (by kernel_rfl) (by kernel_rfl) (by rfl) (by first | assumption | decide +kernel) (by decide +kernel) ⟨rfl, rfl, rfl, rfl, rfl, by decide +kernel⟩ ?hw ?hc
  case hw => w_witness2
  case hc =>
    refine PD.lawW (l := PySem.Challenge.rw_cablehouse_k03_pairs_a_fault_apart) (m := 63) (k := 8) (x := "_law_script") rfl (by decide) (by kernel_rfl) ⟨rfl, by decide, by decide⟩ ?_
    intro w mg fa h Y G hmg0
    obtain ⟨K, KX, c⟩ := Y
    have hmg : mg ("law" : PySem.Str) = some (.ref fa) := by
      have e : (HandSHeadRun.topDef (OpenLaw.row PySem.Challenge.rw_cablehouse_k03_pairs_a_fault_apart).prog 24).name = ("law" : PySem.Str) := by kernel_rfl
      rw [← e]
      exact hmg0
    obtain ⟨fd, hb, hF⟩ := K03.facts (P := (PySem.Challenge.rw_cablehouse_k03_pairs_a_fault_apart).prog) (w := w) KX G hmg c
    exact ⟨K03.prT K, 21, fd, KX, hb, hF, fun ns h1 h2 => K03.law_true ns h1 h2⟩

