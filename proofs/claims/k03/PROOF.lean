import PyProof.Rows.All
import PySem.Syntax
import HandS.List
import HandS.Lambda
import HandS.HeadHook4
import HandS.Comp
import HandS.Exc
import HandS.TupAny
import HandS.Deep
import HandS.IsInst
import HandS.Defaults
import HandS.ClsMeth
import HandS.ExcField
import HandS.ExcInit
import HandS.ExcOwn
import HandS.Codes
import HandS.CallSlots
import HandS.Dict
import HandS.WordsDict
import HandS.TryMany
import HandS.Style
import HandS.Small
import HandS.Head0
import HandS.Head1
import HandS.Head2
import HandS.HeadEnd
import HandS.HeadHook1
import HandS.HeadHook2
import HandS.HeadHook3
import HandS.HeadWalk
import PyProof.ExcBaseAll.ValueError
import PySem.Challenge.RW_fillbehind_k03_what_statements_refuse
set_option linter.all false
set_option maxRecDepth 100000
namespace Fb
open PySem

/-- values without addresses: trees; lst is a list that is never changed any more, ref a changeable object -/
inductive D where
  | non | bl (b : Bool) | int (i : Int) | str (s : Str)
  | tup (ds : List D) | lst (ds : List D)
  | obj (c : Nat) (ns : List Str) (fs : List D) | ref (l : Nat) | fn (k : Nat)
  | exc (a : Nat) (d : Option Nat) (c : Nat) (ns : List Str) (fs : List D)
  | clo (f c : Nat) (q : Str) (sl : List (Option D)) (sv : L2.St)
  deriving Inhabited

/-- changeable objects -/
inductive O where
  | lst (ds : List D)
  | ins (c : Nat) (ns : List Str) (fs : List D)
  | dic (kvs : List (D × D))

abbrev DH := Nat → Option O
def put (h : DH) (l : Nat) (o : O) : DH := fun k => if k = l then some o else h k
def del (h : DH) (l : Nat) : DH := fun k => if k = l then none else h k
theorem put_same {h : DH} {l : Nat} {o : O} : put h l o l = some o := if_pos rfl
theorem put_ne {h : DH} {l k : Nat} {o : O} (e : k ≠ l) : put h l o k = h k := if_neg e
theorem del_same {h : DH} {l : Nat} : del h l l = none := if_pos rfl
theorem del_ne {h : DH} {l k : Nat} (e : k ≠ l) : del h l k = h k := if_neg e
theorem del_put {h : DH} {l : Nat} {o : O} (e : h l = none) : del (put h l o) l = h := by
  funext k
  by_cases hk : k = l
  · subst hk; rw [del_same, e]
  · rw [del_ne hk, put_ne hk]
theorem put_put {h : DH} {l : Nat} {o o' : O} : put (put h l o) l o' = put h l o' := by
  funext k
  unfold put
  split <;> rfl

abbrev Sg := List (Option D)
abbrev QD := D → DH → Prop
abbrev XD := Nat → List D → DH → Prop
abbrev big : Nat := 16777216

inductive BO where | add | sub | mul | fdiv | mod | pow
  deriving DecidableEq
inductive CO where | lt | le | gt | ge
  deriving DecidableEq
inductive Ty where | int | bool | str | list | tuple | dict
  deriving DecidableEq
/-- a target of names -/
inductive Tg where | nm (i : Nat) | tp (is : List Nat)
  deriving DecidableEq

mutual
inductive IE where
  | cst (d : D)
  | var (i : Nat)
  | gcon (k : Nat)
  | tup (es : IL)
  | disp (m : Bool) (es : IL)
  | dnew
  | idx (a b : IE)
  | slcT (a : IE) (lo hi : IO)
  | slcL (m : Bool) (a : IE) (lo hi : IO)
  | bin (op : BO) (a b : IE)
  | neg (a : IE)
  | catT (a b : IE)
  | cat (m : Bool) (a b : IE)
  | rep (m : Bool) (a b : IE)
  | cmp (op : CO) (a b : IE)
  | eq (n : Bool) (a b : IE)
  | isN (n : Bool) (a : IE)
  | inn (n : Bool) (a b : IE)
  | band (es : IL)
  | bor (es : IL)
  | not (a : IE)
  | ite (c a b : IE)
  | call (k : Nat) (as : IL) (ks : List Nat) (kws : IL)
  | isi (a : IE) (ts : List Ty)
  | len (a : IE)
  | int1 (a : IE)
  | any (a : IE)
  | all (a : IE)
  | lof (m : Bool) (a : IE)
  | tof (a : IE)
  | xfld (a : IE) (f : Str)
  | lcall (k : Nat) (body : IE)
  | act (i : Nat)
  | fld (a : IE) (f : Str)
  | meth (k : Nat) (a : IE) (as : IL)
  | isiC (a : IE) (c : Nat)
  | oeq (n : Bool) (a b : IE)
  | chain (o1 o2 : CO) (a b c : IE)
  | isB (n : Bool) (v : Bool) (a : IE)
  | dict1 (a b : IE)
  | comp (m : Bool) (tg : Tg) (it : IT) (ifs : IL) (elt : IE)
inductive IL where
  | nil
  | cons (e : IE) (r : IL)
inductive IO where
  | no
  | so (e : IE)
inductive IT where
  | seq (e : IE)
  | rng (e : IE)
end

def IL.length : IL → Nat
  | .nil => 0
  | .cons _ r => r.length + 1

/-- what the program's text gives: constants of the module; what is known of each def -/
structure Prg where
  con : Nat → Option D
  dfl : Nat → List (Option D)
  spec : Nat → List D → DH → QD → XD → Prop
  exc : Nat → Option Nat → Nat → Prop := fun _ _ _ => False
  cfld : Nat → List Str := fun _ => []
  sub : Nat → Nat → Bool := fun _ _ => false
  act : Nat → Nat → Str → Sg → L2.St → DH → QD → XD → Prop := fun _ _ _ _ _ _ _ _ => False
  tk : Nat → (DH → QD → XD → Prop) → DH → QD → Prop := fun _ _ _ _ => False
  mcl : Nat → Nat × Str := fun _ => (0, "")
  oeq : Nat → Option Nat := fun _ => none
  ifl : Nat → List Str := fun _ => []

/-- a list that is read -/
def lstOf (h : DH) : D → Option (List D)
  | .lst ds => some ds
  | .ref l => match h l with
    | some (.lst ds) => some ds
    | _ => none
  | _ => none
def seqOf (h : DH) : D → Option (List D)
  | .tup ds => some ds
  | d => lstOf h d
def tupOf : D → Option (List D)
  | .tup ds => some ds
  | _ => none
/-- a new list -/
def mkL (m : Bool) (ds : List D) (h : DH) (Q : QD) : Prop := if m then ∀ l, h l = none → Q (.ref l) (put h l (.lst ds)) else Q (.lst ds) h

mutual
/-- plain data, without references -/
def toP0 : D → Option PyData
  | .non => some .none
  | .bl b => some (.bool b)
  | .int i => some (.int i)
  | .str s => some (.str s)
  | .tup ds => (toP0s ds).map .tuple
  | .lst ds => (toP0s ds).map .list
  | _ => none
def toP0s : List D → Option (List PyData)
  | [] => some []
  | d :: ds => match toP0 d, toP0s ds with
    | some x, some xs => some (x :: xs)
    | _, _ => none
end
def toP (h : DH) : D → Option PyData
  | .ref l => match h l with
    | some (.lst ds) => (toP0s ds).map .list
    | _ => none
  | d => toP0 d

def isNonD : D → Bool
  | .non => true
  | _ => false
/-- x[i] -/
def idxD (h : DH) (x y : D) : Option D :=
  match y with
  | .int i => match x with
    | .str z => if z.length ≤ big then (L2.atI z.cps.toList i).map fun c => .str ⟨#[c]⟩ else none
    | _ => (seqOf h x).bind fun ds => L2.atI ds i
  | _ => none
def cutD (xs : List D) (lo hi : Option Int) : List D := (xs.drop (HT.sIx xs.length 0 lo)).take (HT.sIx xs.length xs.length hi - HT.sIx xs.length 0 lo)
def binD (op : BO) (i j : Int) (Q : Int → Prop) : Prop :=
  match op with
  | .add => Q (i + j)
  | .sub => Q (i - j)
  | .mul => L2.CMul i j ∧ Q (i * j)
  | .fdiv => L2.CDiv i j ∧ Q (i / j)
  | .mod => 0 < j ∧ Q (i % j)
  | .pow => L2.CPow i j ∧ Q (i ^ j.toNat)
def cmpD : CO → Int → Int → Bool
  | .lt, i, j => decide (i < j)
  | .le, i, j => decide (i ≤ j)
  | .gt, i, j => decide (j < i)
  | .ge, i, j => decide (j ≤ i)
/-- isinstance -/
def tyD (h : DH) : D → Option (List Ty)
  | .bl _ => some [.bool, .int]
  | .int _ => some [.int]
  | .str _ => some [.str]
  | .tup _ => some [.tuple]
  | .lst _ => some [.list]
  | .non => some []
  | .ref l => match h l with
    | some (.lst _) => some [.list]
    | some (.dic _) => some [.dict]
    | _ => none
  | _ => none
/-- an instance of an own class -/
def insOf (h : DH) : D → Option (Nat × List Str × List D)
  | .obj c ns fs => some (c, ns, fs)
  | .ref l => match h l with
    | some (.ins c ns fs) => some (c, ns, fs)
    | _ => none
  | _ => none
/-- isinstance of an own class -/
def isC (h : DH) (x : D) (c : Nat) : Option Bool :=
  match insOf h x with
  | some (c', _, _) => some (c' == c)
  | none => (tyD h x).map fun _ => false
/-- a key of a dict -/
def keyD : D → Bool
  | .int _ => true
  | .str _ => true
  | _ => false
def lenD (h : DH) : D → Option Nat
  | .str z => if z.length ≤ big then some z.length else none
  | d => (seqOf h d).map List.length
def bools : List D → Option (List Bool)
  | [] => some []
  | .bl b :: r => (bools r).map (b :: ·)
  | _ => none
/-- the arguments in the parameters' order: n positional ones, the keywords, the defaults -/
def bindD (dfl : List (Option D)) (ds : List D) (ks : List Nat) (es : List D) : Option (List D) :=
  go 0 ds dfl
where
  go (j : Nat) : List D → List (Option D) → Option (List D)
    | d :: ds, _ :: r => (go (j + 1) ds r).map (d :: ·)
    | [], o :: r => match (ks.zip es).lookup j with
      | some e => (go (j + 1) [] r).map (e :: ·)
      | none => match o with
        | some d => (go (j + 1) [] r).map (d :: ·)
        | none => none
    | [], [] => some []
    | _ :: _, [] => none
/-- a target of names takes a value -/
def setN : List Nat → List D → Sg → Option Sg
  | [], [], σ => some σ
  | i :: is, d :: ds, σ => setN is ds (σ.set i (some d))
  | _, _, _ => none
def asgN (tg : Tg) (d : D) (σ : Sg) (K : Sg → Prop) : Prop :=
  match tg with
  | .nm i => K (σ.set i (some d))
  | .tp is => ∃ ds σ', d = .tup ds ∧ setN is ds σ = some σ' ∧ K σ'

/-- what a loop walks: the items; what must stay so while it runs -/
structure Its where
  ds : List D
  keep : DH → Prop
/-- the loop of a comprehension -/
def compL (step : D → DH → (Option D → DH → Prop) → Prop) (keep : DH → Prop) : List D → DH → (List D → DH → Prop) → Prop
  | [], h, R => keep h ∧ R [] h
  | d :: ds, h, R => keep h ∧ step d h fun o h1 => compL step keep ds h1 fun acc h2 => R (o.toList ++ acc) h2
def keepOf (h : DH) : D → DH → Prop
  | .ref l => fun h' => h' l = h l
  | _ => fun _ => True

mutual
def wpE (P : Prg) : IE → Sg → DH → QD → XD → Prop
  | .cst d, _, h, Q, _ => Q d h
  | .var i, σ, h, Q, _ => ∃ d, σ[i]? = some (some d) ∧ Q d h
  | .gcon k, _, h, Q, _ => ∃ d, P.con k = some d ∧ Q d h
  | .tup es, σ, h, Q, E => wpL P es σ h (fun ds h1 => Q (.tup ds) h1) E
  | .disp m es, σ, h, Q, E => wpL P es σ h (fun ds h1 => mkL m ds h1 Q) E
  | .dnew, _, h, Q, _ => ∀ l, h l = none → Q (.ref l) (put h l (.dic []))
  | .idx a b, σ, h, Q, E => wpE P a σ h (fun x h1 => wpE P b σ h1 (fun y h2 => ∃ d, idxD h2 x y = some d ∧ Q d h2) E) E
  | .slcT a lo hi, σ, h, Q, E => wpE P a σ h (fun x h1 => wpO P lo σ h1 (fun l h2 => wpO P hi σ h2 (fun u h3 => ∃ ds, tupOf x = some ds ∧ Q (.tup (cutD ds l u)) h3) E) E) E
  | .slcL m a lo hi, σ, h, Q, E => wpE P a σ h (fun x h1 => wpO P lo σ h1 (fun l h2 => wpO P hi σ h2 (fun u h3 => ∃ ds, lstOf h3 x = some ds ∧ mkL m (cutD ds l u) h3 Q) E) E) E
  | .bin op a b, σ, h, Q, E => wpE P a σ h (fun x h1 => wpE P b σ h1 (fun y h2 => ∃ i j, x = .int i ∧ y = .int j ∧ binD op i j fun z => Q (.int z) h2) E) E
  | .neg a, σ, h, Q, E => wpE P a σ h (fun x h1 => ∃ i, x = .int i ∧ Q (.int (-i)) h1) E
  | .catT a b, σ, h, Q, E => wpE P a σ h (fun x h1 => wpE P b σ h1 (fun y h2 => ∃ xs ys, x = .tup xs ∧ y = .tup ys ∧ xs.length + ys.length ≤ big ∧ Q (.tup (xs ++ ys)) h2) E) E
  | .cat m a b, σ, h, Q, E => wpE P a σ h (fun x h1 => wpE P b σ h1 (fun y h2 => ∃ xs ys, lstOf h2 x = some xs ∧ lstOf h2 y = some ys ∧ xs.length + ys.length ≤ big ∧ mkL m (xs ++ ys) h2 Q) E) E
  | .rep m a b, σ, h, Q, E => wpE P a σ h (fun x h1 => wpE P b σ h1 (fun y h2 => ∃ xs k, lstOf h2 x = some xs ∧ y = .int k ∧ -(2 ^ 63) ≤ k ∧ k < 2 ^ 63 ∧ xs.length * k.toNat ≤ big ∧ mkL m (List.replicate k.toNat xs).flatten h2 Q) E) E
  | .cmp op a b, σ, h, Q, E => wpE P a σ h (fun x h1 => wpE P b σ h1 (fun y h2 => ∃ i j, x = .int i ∧ y = .int j ∧ Q (.bl (cmpD op i j)) h2) E) E
  | .eq n a b, σ, h, Q, E => wpE P a σ h (fun x h1 => wpE P b σ h1 (fun y h2 => ∃ d e, toP h2 x = some d ∧ toP h2 y = some e ∧ SeqAt.shaped d = true ∧ SeqAt.shaped e = true ∧ Q (.bl (if n then !PyData.eqv d e else PyData.eqv d e)) h2) E) E
  | .isN n a, σ, h, Q, E => wpE P a σ h (fun x h1 => Q (.bl (if n then !isNonD x else isNonD x)) h1) E
  | .inn n a b, σ, h, Q, E => wpE P a σ h (fun x h1 => wpE P b σ h1 (fun y h2 => ∃ d ds, toP h2 x = some d ∧ ((toP h2 y = some (.list ds) ∧ SeqAt.shaped (.list ds) = true) ∨ (toP h2 y = some (.tuple ds) ∧ SeqAt.shaped (.tuple ds) = true)) ∧ SeqAt.shaped d = true ∧ Q (.bl (if n then !(ds.any fun z => PyData.eqv z d) else ds.any fun z => PyData.eqv z d)) h2) E) E
  | .band es, σ, h, Q, E => wpAnd P es σ h Q E
  | .bor es, σ, h, Q, E => wpOr P es σ h Q E
  | .not a, σ, h, Q, E => wpE P a σ h (fun x h1 => ∃ c, x = .bl c ∧ Q (.bl (!c)) h1) E
  | .ite c a b, σ, h, Q, E => wpE P c σ h (fun x h1 => ∃ c, x = .bl c ∧ if c = true then wpE P a σ h1 Q E else wpE P b σ h1 Q E) E
  | .call k as ks kws, σ, h, Q, E => wpL P as σ h (fun ds h1 => wpL P kws σ h1 (fun es h2 => ∃ args, bindD (P.dfl k) ds ks es = some args ∧ P.spec k args h2 Q E) E) E
  | .isi a ts, σ, h, Q, E => wpE P a σ h (fun x h1 => ∃ tx, tyD h1 x = some tx ∧ Q (.bl (ts.any fun t => tx.contains t)) h1) E
  | .len a, σ, h, Q, E => wpE P a σ h (fun x h1 => ∃ n, lenD h1 x = some n ∧ Q (.int n) h1) E
  | .int1 a, σ, h, Q, E => wpE P a σ h (fun x h1 => (∃ i, x = .int i ∧ Q (.int i) h1) ∨ ∃ c, x = .bl c ∧ Q (.int (if c then 1 else 0)) h1) E
  | .any a, σ, h, Q, E => wpE P a σ h (fun x h1 => ∃ ds bs, lstOf h1 x = some ds ∧ bools ds = some bs ∧ Q (.bl (bs.any id)) h1) E
  | .all a, σ, h, Q, E => wpE P a σ h (fun x h1 => ∃ ds bs, lstOf h1 x = some ds ∧ bools ds = some bs ∧ Q (.bl (bs.all id)) h1) E
  | .lof m a, σ, h, Q, E => wpE P a σ h (fun x h1 => ∃ ds, seqOf h1 x = some ds ∧ mkL m ds h1 Q) E
  | .tof a, σ, h, Q, E => wpE P a σ h (fun x h1 => ∃ ds, seqOf h1 x = some ds ∧ Q (.tup ds) h1) E
  | .xfld a f, σ, h, Q, E => wpE P a σ h (fun x h1 => ∃ p d c ns fs y, x = .exc p d c ns fs ∧ (P.exc p d c ∧ ns = P.cfld c) ∧ (ns.zip fs).lookup f = some y ∧ Q y h1) E
  | .lcall k body, σ, h, Q, _ => P.tk k (fun h' Q' E' => wpE P body σ h' Q' E') h Q
  | .act i, σ, h, Q, E => ∃ f c q sl sv, σ[i]? = some (some (.clo f c q sl sv)) ∧ P.act f c q sl sv h Q E
  | .fld a f, σ, h, Q, E => wpE P a σ h (fun x h1 => ∃ c ns fs y, insOf h1 x = some (c, ns, fs) ∧ (P.ifl c).contains f = true ∧ (ns.zip fs).lookup f = some y ∧ Q y h1) E
  | .meth k a as, σ, h, Q, E => wpE P a σ h (fun x h1 => ∃ ns fs, insOf h1 x = some ((P.mcl k).1, ns, fs) ∧ ns.contains (P.mcl k).2 = false ∧ wpL P as σ h1 (fun ds h2 => P.spec k (x :: ds) h2 Q E) E) E
  | .isiC a c, σ, h, Q, E => wpE P a σ h (fun x h1 => ∃ b, isC h1 x c = some b ∧ Q (.bl b) h1) E
  | .oeq n a b, σ, h, Q, E => wpE P a σ h (fun x h1 => wpE P b σ h1 (fun y h2 => ∃ c ns fs k, x = .obj c ns fs ∧ P.oeq c = some k ∧ (∃ b, isC h2 y c = some b) ∧ P.spec k [x, y] h2 (fun r h3 => ∃ b, r = .bl b ∧ Q (.bl (if n then !b else b)) h3) E) E) E
  | .chain o1 o2 a b c, σ, h, Q, E => wpE P a σ h (fun x h1 => wpE P b σ h1 (fun y h2 => ∃ i j, x = .int i ∧ y = .int j ∧ if cmpD o1 i j = true then wpE P c σ h2 (fun z h3 => ∃ k, z = .int k ∧ Q (.bl (cmpD o2 j k)) h3) E else Q (.bl false) h2) E) E
  | .dict1 a b, σ, h, Q, E => wpE P a σ h (fun x h1 => wpE P b σ h1 (fun y h2 => keyD x = true ∧ ∀ l, h2 l = none → Q (.ref l) (put h2 l (.dic [(x, y)]))) E) E
  | .isB n v a, σ, h, Q, E => wpE P a σ h (fun x h1 => ∃ b, x = .bl b ∧ Q (.bl (if n then !(b == v) else b == v)) h1) E
  | .comp m tg it ifs elt, σ, h, Q, E => wpI P it σ h (fun its h1 => its.ds.length ≤ big ∧ compL (fun d h2 K => asgN tg d σ fun σ1 => wpIfs P ifs σ1 h2 fun b h3 => if b = true then wpE P elt σ1 h3 (fun y h4 => K (some y) h4) (fun _ _ _ => False) else K none h3) its.keep its.ds h1 fun acc h2 => mkL m acc h2 Q) E
def wpO (P : Prg) : IO → Sg → DH → (Option Int → DH → Prop) → XD → Prop
  | .no, _, h, K, _ => K none h
  | .so e, σ, h, K, E => wpE P e σ h (fun x h1 => ∃ i, x = .int i ∧ K (some i) h1) E
def wpL (P : Prg) : IL → Sg → DH → (List D → DH → Prop) → XD → Prop
  | .nil, _, h, Q, _ => Q [] h
  | .cons e r, σ, h, Q, E => wpE P e σ h (fun d h1 => wpL P r σ h1 (fun ds h2 => Q (d :: ds) h2) E) E
def wpAnd (P : Prg) : IL → Sg → DH → QD → XD → Prop
  | .nil, _, _, _, _ => False
  | .cons e .nil, σ, h, Q, E => wpE P e σ h Q E
  | .cons e r, σ, h, Q, E => wpE P e σ h (fun x h1 => ∃ c, x = .bl c ∧ if c = true then wpAnd P r σ h1 Q E else Q (.bl false) h1) E
def wpOr (P : Prg) : IL → Sg → DH → QD → XD → Prop
  | .nil, _, _, _, _ => False
  | .cons e .nil, σ, h, Q, E => wpE P e σ h Q E
  | .cons e r, σ, h, Q, E => wpE P e σ h (fun x h1 => ∃ c, x = .bl c ∧ if c = true then Q (.bl true) h1 else wpOr P r σ h1 Q E) E
def wpIfs (P : Prg) : IL → Sg → DH → (Bool → DH → Prop) → Prop
  | .nil, _, h, K => K true h
  | .cons e r, σ, h, K => wpE P e σ h (fun x h1 => ∃ c, x = .bl c ∧ if c = true then wpIfs P r σ h1 K else K false h1) (fun _ _ _ => False)
def wpI (P : Prg) : IT → Sg → DH → (Its → DH → Prop) → XD → Prop
  | .seq e, σ, h, K, E => wpE P e σ h (fun x h1 => ∃ ds, seqOf h1 x = some ds ∧ K ⟨ds, keepOf h1 x⟩ h1) E
  | .rng e, σ, h, K, E => wpE P e σ h (fun x h1 => ∃ j, x = .int j ∧ -(2 ^ 62) ≤ j ∧ j < 2 ^ 62 ∧ K ⟨(List.range j.toNat).map fun (i : Nat) => D.int (i : Int), fun _ => True⟩ h1) E
end

/-- except c as i: return e -/
structure Hd where
  c : Nat
  i : Option Nat
  e : IE
mutual
inductive IS where
  | expr (e : IE)
  | app (a e : IE)
  | asg (tg : Tg) (e : IE)
  | par (i j : Nat) (a b : IE)
  | sub (o i e : IE)
  | ifs (c : IE) (a b : SL)
  | for_ (tg : Tg) (it : IT) (body : SL)
  | whl (c : IE) (body : SL)
  | ret (f : Bool) (e : IE)
  | retN
  | pass
  | brk
  | cont
  | raise (c : Nat) (as : IL)
  | try_ (body : SL) (hs : List Hd)
  | fset (o : IE) (f : Str) (e : IE)
  | never
inductive SL where
  | nil
  | cons (s : IS) (r : SL)
end

/-- what is wanted behind a statement -/
structure Po where
  nx : Sg → DH → Prop
  rt : QD
  bk : Sg → DH → Prop
  ct : Sg → DH → Prop
  ex : Nat → List D → Sg → DH → Prop
abbrev Po.at (P : Po) (σ : Sg) : XD := fun c fs h => P.ex c fs σ h
/-- a list that is handed back and no more changed -/
def frzD (d : D) (h : DH) (Q : QD) : Prop :=
  match d with
  | .ref l => match h l with
    | some (.lst ds) => Q (.lst ds) (del h l)
    | _ => Q d h
  | _ => Q d h
/-- the loop -/
def forL (step : D → Sg → DH → Po → Prop) (keep : DH → Prop) (P : Po) : List D → Sg → DH → Prop
  | [], σ, h => keep h ∧ P.nx σ h
  | d :: ds, σ, h => keep h ∧ step d σ h { P with nx := forL step keep P ds, ct := forL step keep P ds, bk := P.nx }
/-- o[i] = v -/
def setD (h : DH) (o i v : D) (K : DH → Prop) : Prop :=
  ∃ l ds k j, o = .ref l ∧ h l = some (.lst ds) ∧ i = .int k ∧ L2.ixN ds.length k = some j ∧ K (put h l (.lst (ds.set j v)))
def appD (h : DH) (o v : D) (K : DH → Prop) : Prop :=
  ∃ l ds, o = .ref l ∧ h l = some (.lst ds) ∧ ds.length < big ∧ K (put h l (.lst (ds ++ [v])))
/-- o.f = v -/
def putN (f : Str) (v : D) : List Str → List D → List Str × List D
  | n :: ns, d :: ds => if n = f then (n :: ns, v :: ds) else ((n :: (putN f v ns ds).1), d :: (putN f v ns ds).2)
  | _, _ => ([f], [v])
def fsetD (ok : Nat → Bool) (h : DH) (o : D) (f : Str) (v : D) (K : DH → Prop) : Prop :=
  ∃ l c ns fs, o = .ref l ∧ h l = some (.ins c ns fs) ∧ ok c = true ∧ fs.length < 1000 ∧ K (put h l (.ins c (putN f v ns fs).1 (putN f v ns fs).2))
/-- the caught exception's name -/
def catN (σ : Sg) : Option Nat → D → Sg
  | none, _ => σ
  | some i, d => σ.set i (some d)
/-- what the clauses want of an exception -/
def wpH (G : Prg) (P : Po) : List Hd → Nat → List D → Sg → DH → Prop
  | [], c, fs, σ, h => P.ex c fs σ h
  | hd :: r, c, fs, σ, h => if G.sub c hd.c = true then ∀ a d, wpE { G with exc := fun a' d' c' => a' = a ∧ d' = d ∧ c' = c } hd.e (catN σ hd.i (.exc a d c (G.cfld c) fs)) h P.rt (fun _ _ _ => False) else wpH G P r c fs σ h
mutual
def wpS (G : Prg) : IS → Sg → DH → Po → Prop
  | .expr e, σ, h, P => wpE G e σ h (fun _ h1 => P.nx σ h1) (P.at σ)
  | .app a e, σ, h, P => wpE G a σ h (fun o h1 => (∃ ds, lstOf h1 o = some ds) ∧ wpE G e σ h1 (fun v h2 => appD h2 o v fun h3 => P.nx σ h3) (P.at σ)) (P.at σ)
  | .asg tg e, σ, h, P => wpE G e σ h (fun d h1 => asgN tg d σ fun σ1 => P.nx σ1 h1) (P.at σ)
  | .par i j a b, σ, h, P => wpE G a σ h (fun x h1 => wpE G b σ h1 (fun y h2 => P.nx ((σ.set i (some x)).set j (some y)) h2) (P.at σ)) (P.at σ)
  | .sub o i e, σ, h, P => wpE G e σ h (fun v h1 => wpE G o σ h1 (fun ov h2 => wpE G i σ h2 (fun iv h3 => setD h3 ov iv v fun h4 => P.nx σ h4) (P.at σ)) (P.at σ)) (P.at σ)
  | .ifs c a b, σ, h, P => wpE G c σ h (fun x h1 => ∃ c, x = .bl c ∧ if c = true then wpSs G a σ h1 P else wpSs G b σ h1 P) (P.at σ)
  | .for_ tg it body, σ, h, P => wpI G it σ h (fun its h1 => forL (fun d σ h P => asgN tg d σ fun σ1 => wpSs G body σ1 h P) its.keep P its.ds σ h1) (P.at σ)
  | .whl c body, σ, h, P => ∃ W : Nat → Sg → DH → Prop, (∃ m, W m σ h) ∧ ∀ m σ h, W m σ h →
      wpE G c σ h (fun x h1 => ∃ c, x = .bl c ∧ if c = true then wpSs G body σ h1 { P with nx := fun σ' h' => ∃ m', m' < m ∧ W m' σ' h', ct := fun σ' h' => ∃ m', m' < m ∧ W m' σ' h', bk := P.nx } else P.nx σ h1) (P.at σ)
  | .ret f e, σ, h, P => wpE G e σ h (fun d h1 => if f = true then frzD d h1 P.rt else P.rt d h1) (P.at σ)
  | .retN, _, h, P => P.rt .non h
  | .pass, σ, h, P => P.nx σ h
  | .brk, σ, h, P => P.bk σ h
  | .cont, σ, h, P => P.ct σ h
  | .raise c as, σ, h, P => wpL G as σ h (fun ds h1 => ds.length = (G.cfld c).length ∧ P.ex c ds.reverse σ h1) (P.at σ)
  | .try_ body hs, σ, h, P => wpSs G body σ h { P with ex := wpH G P hs }
  | .fset o f e, σ, h, P => wpE G e σ h (fun v h1 => wpE G o σ h1 (fun ov h2 => fsetD (fun c => (G.ifl c).contains f) h2 ov f v fun h3 => P.nx σ h3) (P.at σ)) (P.at σ)
  | .never, _, _, _ => False
def wpSs (G : Prg) : SL → Sg → DH → Po → Prop
  | .nil, σ, h, P => P.nx σ h
  | .cons s r, σ, h, P => wpS G s σ h { P with nx := fun σ1 h1 => wpSs G r σ1 h1 P }
end
/-- a def's frame at its start -/
def startD (n : Nat) (ds : List D) : Sg := ds.map some ++ List.replicate (n - ds.length) none
example (G : Prg) (d : D) (σ : Sg) (h : DH) (Q : QD) (E : XD) : wpE G (.cst d) σ h Q E = Q d h := rfl
example (G : Prg) (σ : Sg) (h : DH) (P : Po) : wpSs G (.cons .pass .nil) σ h P = P.nx σ h := rfl
end Fb

set_option linter.all false
namespace Fb
open PySem
/-- the tables of code objects (this law's own) -/
def tau (K : PySem.W.Frag) : List (Addr × Str) := [((He.cT K ("law", none)).2, ("law" : Str) ++ ".<locals>." ++ "<lambda>")]
theorem tau_one (x : Str) (K : PySem.W.Frag) (hx : x = "law" := by rfl) : ∀ q ∈ tau K, q.1 = (He.cT K (x, none)).2 → q.2 = x ++ ".<locals>." ++ "<lambda>" := fun q hq _ => by
  subst hx
  rcases List.mem_singleton.mp hq with rfl
  rfl
/-- where the own classes stand (this law's own) -/
def cad (_ : PySem.W.Frag) (_ : Nat) : Addr := 0
end Fb

set_option linter.all false
set_option maxRecDepth 100000
set_option maxHeartbeats 1000000
namespace Fb
open PySem

def BMono (B : DH → QD → XD → Prop) : Prop := ∀ h (Q Q' : QD) (E E' : XD), (∀ d h, Q d h → Q' d h) → (∀ c fs h, E c fs h → E' c fs h) → B h Q E → B h Q' E'
/-- a spec asks no more where less is wanted -/
structure Mono (G : Prg) : Prop where
  sp : ∀ k args h (Q Q' : QD) (E E' : XD), (∀ d h, Q d h → Q' d h) → (∀ c fs h, E c fs h → E' c fs h) → G.spec k args h Q E → G.spec k args h Q' E'
  act : ∀ f c q sl sv h (Q Q' : QD) (E E' : XD), (∀ d h, Q d h → Q' d h) → (∀ c fs h, E c fs h → E' c fs h) → G.act f c q sl sv h Q E → G.act f c q sl sv h Q' E'
  tk : ∀ k B h (Q Q' : QD), BMono B → (∀ d h, Q d h → Q' d h) → G.tk k B h Q → G.tk k B h Q'

theorem mkL_mono {m : Bool} {ds : List D} {h : DH} {Q Q' : QD} (hQ : ∀ d h, Q d h → Q' d h) (w : mkL m ds h Q) : mkL m ds h Q' := by
  unfold mkL at w ⊢
  cases m with
  | true => exact fun l hl => hQ _ _ (w l hl)
  | false => exact hQ _ _ w
theorem binD_mono {op : BO} {i j : Int} {Q Q' : Int → Prop} (hQ : ∀ z, Q z → Q' z) (w : binD op i j Q) : binD op i j Q' := by
  cases op with
  | add => exact hQ _ w
  | sub => exact hQ _ w
  | mul => exact ⟨w.1, hQ _ w.2⟩
  | fdiv => exact ⟨w.1, hQ _ w.2⟩
  | mod => exact ⟨w.1, hQ _ w.2⟩
  | pow => exact ⟨w.1, hQ _ w.2⟩
theorem asgN_mono {tg : Tg} {d : D} {σ : Sg} {K K' : Sg → Prop} (hK : ∀ σ, K σ → K' σ) (w : asgN tg d σ K) : asgN tg d σ K' := by
  cases tg with
  | nm i => exact hK _ w
  | tp is => obtain ⟨ds, σ', h1, h2, h3⟩ := w; exact ⟨ds, σ', h1, h2, hK _ h3⟩
theorem compL_mono {step : D → DH → (Option D → DH → Prop) → Prop} {keep : DH → Prop} (hs : ∀ d h (K K' : Option D → DH → Prop), (∀ o h, K o h → K' o h) → step d h K → step d h K') :
    ∀ {ds : List D} {h : DH} {R R' : List D → DH → Prop}, (∀ acc h, R acc h → R' acc h) → compL step keep ds h R → compL step keep ds h R'
  | [], _, _, _, hR, w => ⟨w.1, hR _ _ w.2⟩
  | d :: ds, _, _, _, hR, w => ⟨w.1, hs _ _ _ _ (fun o h1 q => compL_mono hs (fun acc h2 z => hR _ _ z) q) w.2⟩

mutual
theorem wpE_mono {G : Prg} (hG : Mono G) : ∀ (e : IE) {σ : Sg} {h : DH} {Q Q' : QD} {E E' : XD}, (∀ d h, Q d h → Q' d h) → (∀ c fs h, E c fs h → E' c fs h) → wpE G e σ h Q E → wpE G e σ h Q' E'
  | .cst d, _, _, _, _, _, _, hQ, _, w => hQ _ _ w
  | .var i, _, _, _, _, _, _, hQ, _, w => by obtain ⟨d, h1, h2⟩ := w; exact ⟨d, h1, hQ _ _ h2⟩
  | .gcon k, _, _, _, _, _, _, hQ, _, w => by obtain ⟨d, h1, h2⟩ := w; exact ⟨d, h1, hQ _ _ h2⟩
  | .tup es, _, _, _, _, _, _, hQ, hE, w => wpL_mono hG es (fun _ _ q => hQ _ _ q) hE w
  | .disp m es, _, _, _, _, _, _, hQ, hE, w => wpL_mono hG es (fun _ _ q => mkL_mono hQ q) hE w
  | .dnew, _, _, _, _, _, _, hQ, _, w => fun l hl => hQ _ _ (w l hl)
  | .idx a b, _, _, _, _, _, _, hQ, hE, w => wpE_mono hG a (fun _ _ q => wpE_mono hG b (fun _ _ q => let ⟨d, h1, h2⟩ := q; ⟨d, h1, hQ _ _ h2⟩) hE q) hE w
  | .slcT a lo hi, _, _, _, _, _, _, hQ, hE, w => wpE_mono hG a (fun _ _ q => wpO_mono hG lo (fun _ _ q => wpO_mono hG hi (fun _ _ q => let ⟨d, h1, h2⟩ := q; ⟨d, h1, hQ _ _ h2⟩) hE q) hE q) hE w
  | .slcL m a lo hi, _, _, _, _, _, _, hQ, hE, w => wpE_mono hG a (fun _ _ q => wpO_mono hG lo (fun _ _ q => wpO_mono hG hi (fun _ _ q => let ⟨d, h1, h2⟩ := q; ⟨d, h1, mkL_mono hQ h2⟩) hE q) hE q) hE w
  | .bin op a b, _, _, _, _, _, _, hQ, hE, w => wpE_mono hG a (fun _ _ q => wpE_mono hG b (fun _ _ q => let ⟨i, j, h1, h2, h3⟩ := q; ⟨i, j, h1, h2, binD_mono (fun _ z => hQ _ _ z) h3⟩) hE q) hE w
  | .neg a, _, _, _, _, _, _, hQ, hE, w => wpE_mono hG a (fun _ _ q => let ⟨i, h1, h2⟩ := q; ⟨i, h1, hQ _ _ h2⟩) hE w
  | .catT a b, _, _, _, _, _, _, hQ, hE, w => wpE_mono hG a (fun _ _ q => wpE_mono hG b (fun _ _ q => let ⟨i, j, h1, h2, h3, h4⟩ := q; ⟨i, j, h1, h2, h3, hQ _ _ h4⟩) hE q) hE w
  | .cat m a b, _, _, _, _, _, _, hQ, hE, w => wpE_mono hG a (fun _ _ q => wpE_mono hG b (fun _ _ q => let ⟨i, j, h1, h2, h3, h4⟩ := q; ⟨i, j, h1, h2, h3, mkL_mono hQ h4⟩) hE q) hE w
  | .rep m a b, _, _, _, _, _, _, hQ, hE, w => wpE_mono hG a (fun _ _ q => wpE_mono hG b (fun _ _ q => let ⟨i, j, h1, h2, h3, h4, h5, h6⟩ := q; ⟨i, j, h1, h2, h3, h4, h5, mkL_mono hQ h6⟩) hE q) hE w
  | .cmp op a b, _, _, _, _, _, _, hQ, hE, w => wpE_mono hG a (fun _ _ q => wpE_mono hG b (fun _ _ q => let ⟨i, j, h1, h2, h3⟩ := q; ⟨i, j, h1, h2, hQ _ _ h3⟩) hE q) hE w
  | .eq n a b, _, _, _, _, _, _, hQ, hE, w => wpE_mono hG a (fun _ _ q => wpE_mono hG b (fun _ _ q => let ⟨i, j, h1, h2, h3, h4, h5⟩ := q; ⟨i, j, h1, h2, h3, h4, hQ _ _ h5⟩) hE q) hE w
  | .isN n a, _, _, _, _, _, _, hQ, hE, w => wpE_mono hG a (fun _ _ q => hQ _ _ q) hE w
  | .inn n a b, _, _, _, _, _, _, hQ, hE, w => wpE_mono hG a (fun _ _ q => wpE_mono hG b (fun _ _ q => let ⟨i, j, h1, h2, h3, h4⟩ := q; ⟨i, j, h1, h2, h3, hQ _ _ h4⟩) hE q) hE w
  | .band es, _, _, _, _, _, _, hQ, hE, w => wpAnd_mono hG es hQ hE w
  | .bor es, _, _, _, _, _, _, hQ, hE, w => wpOr_mono hG es hQ hE w
  | .not a, _, _, _, _, _, _, hQ, hE, w => wpE_mono hG a (fun _ _ q => let ⟨i, h1, h2⟩ := q; ⟨i, h1, hQ _ _ h2⟩) hE w
  | .ite c a b, _, _, _, _, _, _, hQ, hE, w => wpE_mono hG c (fun _ _ q => by
      obtain ⟨c', h1, h2⟩ := q
      refine ⟨c', h1, ?_⟩
      cases c' with
      | true => rw [if_pos rfl] at h2 ⊢; exact wpE_mono hG a hQ hE h2
      | false => rw [if_neg (by decide)] at h2 ⊢; exact wpE_mono hG b hQ hE h2) hE w
  | .call k as ks kws, _, _, _, _, _, _, hQ, hE, w => wpL_mono hG as (fun _ _ q => wpL_mono hG kws (fun _ _ q => let ⟨a, h1, h2⟩ := q; ⟨a, h1, hG.sp _ _ _ _ _ _ _ hQ hE h2⟩) hE q) hE w
  | .isi a ts, _, _, _, _, _, _, hQ, hE, w => wpE_mono hG a (fun _ _ q => let ⟨i, h1, h2⟩ := q; ⟨i, h1, hQ _ _ h2⟩) hE w
  | .len a, _, _, _, _, _, _, hQ, hE, w => wpE_mono hG a (fun _ _ q => let ⟨i, h1, h2⟩ := q; ⟨i, h1, hQ _ _ h2⟩) hE w
  | .int1 a, _, _, _, _, _, _, hQ, hE, w => wpE_mono hG a (fun _ _ q => q.elim (fun ⟨i, h1, h2⟩ => .inl ⟨i, h1, hQ _ _ h2⟩) fun ⟨i, h1, h2⟩ => .inr ⟨i, h1, hQ _ _ h2⟩) hE w
  | .any a, _, _, _, _, _, _, hQ, hE, w => wpE_mono hG a (fun _ _ q => let ⟨i, j, h1, h2, h3⟩ := q; ⟨i, j, h1, h2, hQ _ _ h3⟩) hE w
  | .all a, _, _, _, _, _, _, hQ, hE, w => wpE_mono hG a (fun _ _ q => let ⟨i, j, h1, h2, h3⟩ := q; ⟨i, j, h1, h2, hQ _ _ h3⟩) hE w
  | .lof m a, _, _, _, _, _, _, hQ, hE, w => wpE_mono hG a (fun _ _ q => let ⟨i, h1, h2⟩ := q; ⟨i, h1, mkL_mono hQ h2⟩) hE w
  | .tof a, _, _, _, _, _, _, hQ, hE, w => wpE_mono hG a (fun _ _ q => let ⟨i, h1, h2⟩ := q; ⟨i, h1, hQ _ _ h2⟩) hE w
  | .xfld a f, _, _, _, _, _, _, hQ, hE, w => wpE_mono hG a (fun _ _ q => let ⟨i, j, k, l, m, n, h1, h2, h3, h4⟩ := q; ⟨i, j, k, l, m, n, h1, h2, h3, hQ _ _ h4⟩) hE w
  | .lcall k body, _, _, _, _, _, _, hQ, _, w => hG.tk _ _ _ _ _ (fun _ _ _ _ _ q e z => wpE_mono hG body q e z) hQ w
  | .act i, _, _, _, _, _, _, hQ, hE, w => by obtain ⟨f, c, q, sl, sv, h1, h2⟩ := w; exact ⟨f, c, q, sl, sv, h1, hG.act _ _ _ _ _ _ _ _ _ _ hQ hE h2⟩
  | .fld a f, _, _, _, _, _, _, hQ, hE, w => wpE_mono hG a (fun _ _ q => let ⟨i, j, k, l, h1, h2, h3, h4⟩ := q; ⟨i, j, k, l, h1, h2, h3, hQ _ _ h4⟩) hE w
  | .meth k a as, _, _, _, _, _, _, hQ, hE, w => wpE_mono hG a (fun _ _ q => let ⟨i, j, h1, h2, h3⟩ := q; ⟨i, j, h1, h2, wpL_mono hG as (fun _ _ q => hG.sp _ _ _ _ _ _ _ hQ hE q) hE h3⟩) hE w
  | .isiC a c, _, _, _, _, _, _, hQ, hE, w => wpE_mono hG a (fun _ _ q => let ⟨i, h1, h2⟩ := q; ⟨i, h1, hQ _ _ h2⟩) hE w
  | .oeq n a b, _, _, _, _, _, _, hQ, hE, w => wpE_mono hG a (fun _ _ q => wpE_mono hG b (fun _ _ q => let ⟨i, j, k, l, h1, h2, h3, h4⟩ := q; ⟨i, j, k, l, h1, h2, h3, hG.sp _ _ _ _ _ _ _ (fun _ _ q => let ⟨z, z1, z2⟩ := q; ⟨z, z1, hQ _ _ z2⟩) hE h4⟩) hE q) hE w
  | .chain o1 o2 a b c, _, _, _, _, _, _, hQ, hE, w => wpE_mono hG a (fun _ _ q => wpE_mono hG b (fun _ _ q => by
      obtain ⟨i, j, h1, h2, h3⟩ := q
      refine ⟨i, j, h1, h2, ?_⟩
      split at h3
      · rename_i hc
        rw [if_pos hc]
        exact wpE_mono hG c (fun _ _ q => let ⟨z, z1, z2⟩ := q; ⟨z, z1, hQ _ _ z2⟩) hE h3
      · rename_i hc
        rw [if_neg hc]
        exact hQ _ _ h3) hE q) hE w
  | .dict1 a b, _, _, _, _, _, _, hQ, hE, w => wpE_mono hG a (fun _ _ q => wpE_mono hG b (fun _ _ q => ⟨q.1, fun l hl => hQ _ _ (q.2 l hl)⟩) hE q) hE w
  | .isB n v a, _, _, _, _, _, _, hQ, hE, w => wpE_mono hG a (fun _ _ q => let ⟨i, h1, h2⟩ := q; ⟨i, h1, hQ _ _ h2⟩) hE w
  | .comp m tg it ifs elt, σ, _, _, _, _, _, hQ, hE, w => by
    refine wpI_mono hG it (fun its h1 q => ⟨q.1, ?_⟩) hE w
    refine compL_mono ?_ (fun acc h2 w => mkL_mono hQ w) q.2
    intro d h2 K K' hK w
    refine asgN_mono (fun σ1 w => ?_) w
    refine wpIfs_mono hG ifs (fun b h3 w => ?_) w
    cases b with
    | true => rw [if_pos rfl] at w ⊢; exact wpE_mono hG elt (fun _ _ z => hK _ _ z) (fun _ _ _ z => z) w
    | false => rw [if_neg (by decide)] at w ⊢; exact hK _ _ w
theorem wpO_mono {G : Prg} (hG : Mono G) : ∀ (e : IO) {σ : Sg} {h : DH} {Q Q' : Option Int → DH → Prop} {E E' : XD}, (∀ d h, Q d h → Q' d h) → (∀ c fs h, E c fs h → E' c fs h) → wpO G e σ h Q E → wpO G e σ h Q' E'
  | .no, _, _, _, _, _, _, hQ, _, w => hQ _ _ w
  | .so e, _, _, _, _, _, _, hQ, hE, w => wpE_mono hG e (fun _ _ q => let ⟨i, h1, h2⟩ := q; ⟨i, h1, hQ _ _ h2⟩) hE w
theorem wpL_mono {G : Prg} (hG : Mono G) : ∀ (es : IL) {σ : Sg} {h : DH} {Q Q' : List D → DH → Prop} {E E' : XD}, (∀ d h, Q d h → Q' d h) → (∀ c fs h, E c fs h → E' c fs h) → wpL G es σ h Q E → wpL G es σ h Q' E'
  | .nil, _, _, _, _, _, _, hQ, _, w => hQ _ _ w
  | .cons e r, _, _, _, _, _, _, hQ, hE, w => wpE_mono hG e (fun _ _ q => wpL_mono hG r (fun _ _ q => hQ _ _ q) hE q) hE w
theorem wpAnd_mono {G : Prg} (hG : Mono G) : ∀ (es : IL) {σ : Sg} {h : DH} {Q Q' : QD} {E E' : XD}, (∀ d h, Q d h → Q' d h) → (∀ c fs h, E c fs h → E' c fs h) → wpAnd G es σ h Q E → wpAnd G es σ h Q' E'
  | .nil, _, _, _, _, _, _, _, _, w => w
  | .cons e .nil, _, _, _, _, _, _, hQ, hE, w => wpE_mono hG e hQ hE w
  | .cons e (.cons a r), _, _, _, _, _, _, hQ, hE, w => wpE_mono hG e (fun _ _ q => by
      obtain ⟨c', h1, h2⟩ := q
      refine ⟨c', h1, ?_⟩
      cases c' with
      | true => rw [if_pos rfl] at h2 ⊢; exact wpAnd_mono hG (.cons a r) hQ hE h2
      | false => rw [if_neg (by decide)] at h2 ⊢; exact hQ _ _ h2) hE w
theorem wpOr_mono {G : Prg} (hG : Mono G) : ∀ (es : IL) {σ : Sg} {h : DH} {Q Q' : QD} {E E' : XD}, (∀ d h, Q d h → Q' d h) → (∀ c fs h, E c fs h → E' c fs h) → wpOr G es σ h Q E → wpOr G es σ h Q' E'
  | .nil, _, _, _, _, _, _, _, _, w => w
  | .cons e .nil, _, _, _, _, _, _, hQ, hE, w => wpE_mono hG e hQ hE w
  | .cons e (.cons a r), _, _, _, _, _, _, hQ, hE, w => wpE_mono hG e (fun _ _ q => by
      obtain ⟨c', h1, h2⟩ := q
      refine ⟨c', h1, ?_⟩
      cases c' with
      | true => rw [if_pos rfl] at h2 ⊢; exact hQ _ _ h2
      | false => rw [if_neg (by decide)] at h2 ⊢; exact wpOr_mono hG (.cons a r) hQ hE h2) hE w
theorem wpIfs_mono {G : Prg} (hG : Mono G) : ∀ (es : IL) {σ : Sg} {h : DH} {Q Q' : Bool → DH → Prop}, (∀ d h, Q d h → Q' d h) → wpIfs G es σ h Q → wpIfs G es σ h Q'
  | .nil, _, _, _, _, hQ, w => hQ _ _ w
  | .cons e r, _, _, _, _, hQ, w => wpE_mono hG e (fun _ _ q => by
      obtain ⟨c', h1, h2⟩ := q
      refine ⟨c', h1, ?_⟩
      cases c' with
      | true => rw [if_pos rfl] at h2 ⊢; exact wpIfs_mono hG r hQ h2
      | false => rw [if_neg (by decide)] at h2 ⊢; exact hQ _ _ h2) (fun _ _ _ z => z) w
theorem wpI_mono {G : Prg} (hG : Mono G) : ∀ (it : IT) {σ : Sg} {h : DH} {Q Q' : Its → DH → Prop} {E E' : XD}, (∀ d h, Q d h → Q' d h) → (∀ c fs h, E c fs h → E' c fs h) → wpI G it σ h Q E → wpI G it σ h Q' E'
  | .seq e, _, _, _, _, _, _, hQ, hE, w => wpE_mono hG e (fun _ _ q => let ⟨i, h1, h2⟩ := q; ⟨i, h1, hQ _ _ h2⟩) hE w
  | .rng e, _, _, _, _, _, _, hQ, hE, w => wpE_mono hG e (fun _ _ q => let ⟨i, h1, h2, h3, h4⟩ := q; ⟨i, h1, h2, h3, hQ _ _ h4⟩) hE w
end

theorem wpL_len {G : Prg} (hG : Mono G) : ∀ (es : IL) {σ : Sg} {h : DH} {P : List D → DH → Prop} {E : XD}, wpL G es σ h P E → wpL G es σ h (fun ds h1 => ds.length = es.length ∧ P ds h1) E
  | .nil, _, _, _, _, w => ⟨rfl, w⟩
  | .cons e r, _, _, _, _, w => wpE_mono hG e (fun d h1 q => wpL_mono hG r (fun ds h2 z => ⟨by rw [List.length_cons, z.1]; rfl, z.2⟩) (fun _ _ _ z => z) (wpL_len hG r q)) (fun _ _ _ z => z) w
/-- one end asks no more than another -/
structure Po.le (P P' : Po) : Prop where
  nx : ∀ σ h, P.nx σ h → P'.nx σ h
  rt : ∀ d h, P.rt d h → P'.rt d h
  bk : ∀ σ h, P.bk σ h → P'.bk σ h
  ct : ∀ σ h, P.ct σ h → P'.ct σ h
  ex : ∀ c fs σ h, P.ex c fs σ h → P'.ex c fs σ h
theorem Po.le.at {P P' : Po} (p : P.le P') (σ : Sg) : ∀ c fs h, P.at σ c fs h → P'.at σ c fs h := fun c fs h => p.ex c fs σ h
theorem frzD_mono {d : D} {h : DH} {Q Q' : QD} (hQ : ∀ d h, Q d h → Q' d h) (w : frzD d h Q) : frzD d h Q' := by
  unfold frzD at w ⊢
  split at w
  · split at w <;> exact hQ _ _ w
  · exact hQ _ _ w
theorem forL_mono {step : D → Sg → DH → Po → Prop} {keep : DH → Prop} (hs : ∀ d σ h P P', P.le P' → step d σ h P → step d σ h P') {P P' : Po} (p : P.le P') :
    ∀ {ds : List D} {σ : Sg} {h : DH}, forL step keep P ds σ h → forL step keep P' ds σ h
  | [], _, _, w => ⟨w.1, p.nx _ _ w.2⟩
  | d :: ds, _, _, w => by
    refine ⟨w.1, hs _ _ _ _ _ ?_ w.2⟩
    exact ⟨fun _ _ q => forL_mono hs p q, p.rt, p.nx, fun _ _ q => forL_mono hs p q, p.ex⟩
theorem wpH_mono {G : Prg} (hG : Mono G) {P P' : Po} (p : P.le P') : ∀ (hs : List Hd) {c : Nat} {fs : List D} {σ : Sg} {h : DH}, wpH G P hs c fs σ h → wpH G P' hs c fs σ h
  | [], _, _, _, _, w => p.ex _ _ _ _ w
  | hd :: r, c, fs, σ, h, w => by
    unfold wpH at w ⊢
    by_cases hb : G.sub c hd.c = true
    · rw [if_pos hb] at w ⊢
      exact fun a d => wpE_mono (G := { G with exc := fun a' d' c' => a' = a ∧ d' = d ∧ c' = c }) ⟨hG.sp, hG.act, hG.tk⟩ hd.e p.rt (fun _ _ _ z => z) (w a d)
    · rw [if_neg hb] at w ⊢
      exact wpH_mono hG p r w
mutual
theorem wpS_mono {G : Prg} (hG : Mono G) : ∀ (s : IS) {σ : Sg} {h : DH} {P P' : Po}, P.le P' → wpS G s σ h P → wpS G s σ h P'
  | .expr e, _, _, _, _, p, w => wpE_mono hG e (fun _ _ q => p.nx _ _ q) (p.at _) w
  | .app a e, _, _, _, _, p, w => wpE_mono hG a (fun _ _ q => ⟨q.1, wpE_mono hG e (fun _ _ q => let ⟨l, ds, h1, h2, h3, h4⟩ := q; ⟨l, ds, h1, h2, h3, p.nx _ _ h4⟩) (p.at _) q.2⟩) (p.at _) w
  | .asg tg e, _, _, _, _, p, w => wpE_mono hG e (fun _ _ q => asgN_mono (fun _ q => p.nx _ _ q) q) (p.at _) w
  | .par i j a b, _, _, _, _, p, w => wpE_mono hG a (fun _ _ q => wpE_mono hG b (fun _ _ q => p.nx _ _ q) (p.at _) q) (p.at _) w
  | .sub o i e, _, _, _, _, p, w => wpE_mono hG e (fun _ _ q => wpE_mono hG o (fun _ _ q => wpE_mono hG i (fun _ _ q => let ⟨l, ds, k, j, h1, h2, h3, h4, h5⟩ := q; ⟨l, ds, k, j, h1, h2, h3, h4, p.nx _ _ h5⟩) (p.at _) q) (p.at _) q) (p.at _) w
  | .ifs c a b, _, _, _, _, p, w => wpE_mono hG c (fun _ _ q => by
      obtain ⟨c', h1, h2⟩ := q
      refine ⟨c', h1, ?_⟩
      cases c' with
      | true => rw [if_pos rfl] at h2 ⊢; exact wpSs_mono hG a p h2
      | false => rw [if_neg (by decide)] at h2 ⊢; exact wpSs_mono hG b p h2) (p.at _) w
  | .for_ tg it body, _, _, _, _, p, w => wpI_mono hG it (fun its h1 q => forL_mono (step := fun d σ h P => asgN tg d σ fun σ1 => wpSs G body σ1 h P) (fun d σ h P P' p w => asgN_mono (fun σ1 w => wpSs_mono hG body p w) w) p q) (p.at _) w
  | .whl c body, _, _, _, _, p, w => by
    obtain ⟨W, h0, h1⟩ := w
    refine ⟨W, h0, fun m σ h w => wpE_mono hG c (fun _ _ q => ?_) (p.at _) (h1 m σ h w)⟩
    obtain ⟨c', e1, e2⟩ := q
    refine ⟨c', e1, ?_⟩
    cases c' with
    | true => rw [if_pos rfl] at e2 ⊢; refine wpSs_mono hG body ?_ e2; exact ⟨fun _ _ q => q, p.rt, p.nx, fun _ _ q => q, p.ex⟩
    | false => rw [if_neg (by decide)] at e2 ⊢; exact p.nx _ _ e2
  | .ret f e, _, _, _, _, p, w => wpE_mono hG e (fun _ _ q => by
      cases f with
      | true => rw [if_pos rfl] at q ⊢; exact frzD_mono p.rt q
      | false => rw [if_neg (by decide)] at q ⊢; exact p.rt _ _ q) (p.at _) w
  | .retN, _, _, _, _, p, w => p.rt _ _ w
  | .pass, _, _, _, _, p, w => p.nx _ _ w
  | .brk, _, _, _, _, p, w => p.bk _ _ w
  | .cont, _, _, _, _, p, w => p.ct _ _ w
  | .raise c as, _, _, _, _, p, w => wpL_mono hG as (fun _ _ q => ⟨q.1, p.ex _ _ _ _ q.2⟩) (p.at _) w
  | .try_ body hs, _, _, _, _, p, w => by
    refine wpSs_mono hG body ?_ w
    exact ⟨p.nx, p.rt, p.bk, p.ct, fun _ _ _ _ q => wpH_mono hG p hs q⟩
  | .fset o f e, _, _, _, _, p, w => wpE_mono hG e (fun _ _ q => wpE_mono hG o (fun _ _ q => let ⟨l, c, ns, fs, h1, h2, h3, h4, h5⟩ := q; ⟨l, c, ns, fs, h1, h2, h3, h4, p.nx _ _ h5⟩) (p.at _) q) (p.at _) w
  | .never, _, _, _, _, _, w => w
theorem wpSs_mono {G : Prg} (hG : Mono G) : ∀ (s : SL) {σ : Sg} {h : DH} {P P' : Po}, P.le P' → wpSs G s σ h P → wpSs G s σ h P'
  | .nil, _, _, _, _, p, w => p.nx _ _ w
  | .cons s r, _, _, _, _, p, w => by
    refine wpS_mono hG s ?_ w
    exact ⟨fun _ _ q => wpSs_mono hG r p q, p.rt, p.bk, p.ct, p.ex⟩
end
end Fb

set_option linter.all false
set_option maxRecDepth 100000
namespace Fb
open PySem PySem.Spec L2

/-- the names of the text: defs (name, parameters, the shapes of calls: positional ones and keywords), constants -/
structure Nm where
  fns : List (Str × List Str × List (Nat × List Nat))
  cons : List Str
  cls : List Str := []
  hot : Bool := false
  md : Nat := 0
  lm : Bool := false
  lev : List Nat := []
  tks : List (Nat × Str) := []
def Nm.lv (T : Nm) (k : Nat) : Nat := T.lev.getD k k
/-- a lambda without parameters -/
def noPar (p : Arguments) : Bool := p.posonlyargs.isEmpty && p.args.isEmpty && p.vararg.isNone && p.kwonlyargs.isEmpty && p.kw_defaults.isEmpty && p.kwarg.isNone && p.defaults.isEmpty

def visB (sc : Scope) (x : Str) : Bool := match sc.names.lookup x with
  | some .local => true
  | some .cell => true
  | some .free => true
  | _ => false
def locB (sc : Scope) (x : Str) : Bool := match sc.names.lookup x with
  | some .local => true
  | some .cell => true
  | _ => false
def glB (sc : Scope) (x : Str) : Bool := match sc.names.lookup x with
  | some .globalImplicit => true
  | _ => false
def dbgB (x : Str) : Bool := !(x == ("__debug__" : Str)) && !(x == ("__classdict__" : Str))
def cstB : D → Const → Bool
  | .non, .none => true
  | .bl a, .bool b => a == b
  | .int i, .int j => i == j
  | .str s, .str t => s == t
  | _, _ => false
def boB : BO → Operator → Bool
  | .add, .Add => true
  | .sub, .Sub => true
  | .mul, .Mult => true
  | .fdiv, .FloorDiv => true
  | .mod, .Mod => true
  | .pow, .Pow => true
  | _, _ => false
def coB : CO → CmpOp → Bool
  | .lt, .Lt => true
  | .le, .LtE => true
  | .gt, .Gt => true
  | .ge, .GtE => true
  | _, _ => false
def eqB : Bool → CmpOp → Bool
  | false, .Eq => true
  | true, .NotEq => true
  | _, _ => false
def isB : Bool → CmpOp → Bool
  | false, .Is => true
  | true, .IsNot => true
  | _, _ => false
def inB : Bool → CmpOp → Bool
  | false, .In => true
  | true, .NotIn => true
  | _, _ => false
def tyN : Ty → String
  | .int => "int" | .bool => "bool" | .str => "str" | .list => "list" | .tuple => "tuple" | .dict => "dict"
/-- the classes that isinstance is asked for -/
def tysB (sc : Scope) : List Ty → List Expr → Bool
  | [], [] => true
  | t :: ts, .Name x _ :: es => (x == (tyN t : Str)) && glB sc x && tysB sc ts es
  | _, _ => false
def tyB (sc : Scope) : List Ty → Expr → Bool
  | [t], .Name x _ => (x == (tyN t : Str)) && glB sc x
  | ts, .Tuple es _ _ => tysB sc ts es && decide (ts.length ≤ 10)
  | _, _ => false
/-- a target of names -/
def nmsB (N : List Str) (sc : Scope) : List Nat → List Expr → Bool
  | [], [] => true
  | i :: is, .Name x _ :: es => decide (N[i]? = some x) && locB sc x && nmsB N sc is es
  | _, _ => false
def tgB (N : List Str) (sc : Scope) : Tg → Expr → Bool
  | .nm i, .Name x _ => decide (N[i]? = some x) && locB sc x
  | .tp is, .Tuple es _ _ => nmsB N sc is es
  | _, _ => false
def tgIx : Tg → List Nat
  | .nm i => [i]
  | .tp is => is
def ownOf (N : List Str) (tg : Tg) : List (Str × Nat) := (tgIx tg).filterMap fun i => (N[i]?).map fun x => (x, i)
/-- names of the keywords -/
def kwB (ps : List Str) : List Nat → List Keyword → Bool
  | [], [] => true
  | k :: ks, ⟨some x, _, _⟩ :: r => decide (ps[k]? = some x) && kwB ps ks r
  | _, _ => false

def bltB (sc : Scope) (x : Str) (nm : String) : Bool := (x == (nm : Str)) && glB sc x

def isCallX : Expr → Bool
  | .Call _ _ _ _ => true
  | _ => false
mutual
def mE (T : Nm) (n : Nat) (N : List Str) : IE → Scope → Expr → Bool
  | .cst d, _, e => match e with
    | .Constant c _ _ => cstB d c
    | _ => false
  | .var i, sc, e => match e with
    | .Name x _ => decide (N[i]? = some x) && visB sc x && dbgB x
    | _ => false
  | .gcon k, sc, e => match e with
    | .Name x _ => decide (T.cons[k]? = some x) && glB sc x && dbgB x
    | _ => false
  | .tup es, sc, e => match e with
    | .Tuple as _ _ => mL T n N es sc as && decide (as.length ≤ 1000)
    | _ => false
  | .disp _ es, sc, e => match e with
    | .List as _ => mL T n N es sc as && decide (as.length ≤ 1000)
    | _ => false
  | .dnew, _, e => match e with
    | .Dict [] [] _ => true
    | _ => false
  | .idx a b, sc, e => match e with
    | .Subscript a' b' _ => mE T n N a sc a' && mE T n N b sc b'
    | _ => false
  | .slcT a lo hi, sc, e => match e with
    | .Subscript a' (.Slice lo' hi' none _) _ => mE T n N a sc a' && mO T n N lo sc lo' && mO T n N hi sc hi'
    | _ => false
  | .slcL _ a lo hi, sc, e => match e with
    | .Subscript a' (.Slice lo' hi' none _) _ => mE T n N a sc a' && mO T n N lo sc lo' && mO T n N hi sc hi'
    | _ => false
  | .bin op a b, sc, e => match e with
    | .BinOp a' op' b' _ => boB op op' && mE T n N a sc a' && mE T n N b sc b'
    | _ => false
  | .neg a, sc, e => match e with
    | .UnaryOp .USub a' _ => mE T n N a sc a'
    | _ => false
  | .catT a b, sc, e => match e with
    | .BinOp a' .Add b' _ => mE T n N a sc a' && mE T n N b sc b'
    | _ => false
  | .cat _ a b, sc, e => match e with
    | .BinOp a' .Add b' _ => mE T n N a sc a' && mE T n N b sc b'
    | _ => false
  | .rep _ a b, sc, e => match e with
    | .BinOp a' .Mult b' _ => mE T n N a sc a' && mE T n N b sc b'
    | _ => false
  | .cmp op a b, sc, e => match e with
    | .Compare a' [op'] [b'] _ => coB op op' && mE T n N a sc a' && mE T n N b sc b'
    | _ => false
  | .eq ng a b, sc, e => match e with
    | .Compare a' [op'] [b'] _ => eqB ng op' && mE T n N a sc a' && mE T n N b sc b'
    | _ => false
  | .isN ng a, sc, e => match e with
    | .Compare a' [op'] [.Constant .none _ _] _ => isB ng op' && mE T n N a sc a'
    | _ => false
  | .inn ng a b, sc, e => match e with
    | .Compare a' [op'] [b'] _ => inB ng op' && mE T n N a sc a' && mE T n N b sc b'
    | _ => false
  | .band es, sc, e => match e with
    | .BoolOp .And as _ => mL T n N es sc as
    | _ => false
  | .bor es, sc, e => match e with
    | .BoolOp .Or as _ => mL T n N es sc as
    | _ => false
  | .not a, sc, e => match e with
    | .UnaryOp .Not a' _ => mE T n N a sc a'
    | _ => false
  | .ite c a b, sc, e => match e with
    | .IfExp c' a' b' _ => mE T n N c sc c' && mE T n N a sc a' && mE T n N b sc b'
    | _ => false
  | .call k as ks kws, sc, e => match e with
    | .Call (.Name x _) as' kws' _ => match T.fns[k]? with
      | some (nm, ps, shs) => !T.hot && decide (T.lv k < n) && (x == nm) && glB sc x && dbgB x && mL T n N as sc as' && kwB ps ks kws' && mK T n N kws sc kws' && shs.contains (as'.length, ks)
      | none => false
    | _ => false
  | .isi a ts, sc, e => match e with
    | .Call (.Name x _) [a', t] [] _ => bltB sc x "isinstance" && mE T n N a sc a' && tyB sc ts t
    | _ => false
  | .len a, sc, e => match e with
    | .Call (.Name x _) [a'] [] _ => bltB sc x "len" && mE T n N a sc a'
    | _ => false
  | .int1 a, sc, e => match e with
    | .Call (.Name x _) [a'] [] _ => bltB sc x "int" && mE T n N a sc a'
    | _ => false
  | .any a, sc, e => match e with
    | .Call (.Name x _) [a'] [] _ => !T.hot && bltB sc x "any" && mE T n N a sc a'
    | _ => false
  | .all a, sc, e => match e with
    | .Call (.Name x _) [a'] [] _ => !T.hot && bltB sc x "all" && mE T n N a sc a'
    | _ => false
  | .lof _ a, sc, e => match e with
    | .Call (.Name x _) [a'] [] _ => bltB sc x "list" && mE T n N a sc a'
    | _ => false
  | .tof a, sc, e => match e with
    | .Call (.Name x _) [a'] [] _ => bltB sc x "tuple" && mE T n N a sc a'
    | _ => false
  | .xfld a f, sc, e => match e with
    | .Attribute a' f' _ => T.hot && (f == f') && mE T n N a sc a' && !isCallX a'
    | _ => false
  | .comp _ tg it ifs elt, sc, e => match e with
    | .ListComp elt' [⟨tg', it', ifs', ay⟩] scope _ => !T.hot && decide (ay = 0) && blkC N sc scope (ownOf N tg) && tgB N scope tg tg' && mI T n N it sc it' && mL { T with md := 3 } n N ifs scope ifs' && decide (ifs'.length ≤ 1) && mE { T with md := 3 } n N elt scope elt'
    | _ => false
  | .lcall k body, sc, e => match e with
    | .Call (.Name x _) [.Lambda params lb scope _] [] _ => match T.tks.lookup k with
      | some nm => !T.hot && (T.md == 0) && T.lm && decide (T.lv k < n) && (x == nm) && glB sc x && dbgB x && noPar params && LamX.lamSB sc scope && mE { T with md := 2 } n N body scope lb
      | none => false
    | _ => false
  | .act i, sc, e => match e with
    | .Call (.Name x _) [] [] _ => !T.hot && (T.md == 1) && decide (i = 0) && decide (N[0]? = some x) && visB sc x && dbgB x
    | _ => false
  | .fld _ _, _, _ => false
  | .meth _ _ _, _, _ => false
  | .isiC _ _, _, _ => false
  | .oeq _ _ _, _, _ => false
  | .chain o1 o2 a b c, sc, e => match e with
    | .Compare a' [o1', o2'] [b', c'] _ => coB o1 o1' && coB o2 o2' && mE T n N a sc a' && mE T n N b sc b' && mE T n N c sc c'
    | _ => false
  | .dict1 a b, sc, e => match e with
    | .Dict [some a'] [b'] _ => mE T n N a sc a' && mE T n N b sc b'
    | _ => false
  | .isB ng v a, sc, e => match e with
    | .Compare a' [op'] [.Constant (.bool v') _ _] _ => isB ng op' && (v == v') && mE T n N a sc a'
    | _ => false
def mL (T : Nm) (n : Nat) (N : List Str) : IL → Scope → List Expr → Bool
  | .nil, _, as => match as with
    | [] => true
    | _ => false
  | .cons e r, sc, as => match as with
    | a :: as' => mE T n N e sc a && mL T n N r sc as'
    | _ => false
def mK (T : Nm) (n : Nat) (N : List Str) : IL → Scope → List Keyword → Bool
  | .nil, _, as => match as with
    | [] => true
    | _ => false
  | .cons e r, sc, as => match as with
    | ⟨_, a, _⟩ :: as' => mE T n N e sc a && mK T n N r sc as'
    | _ => false
def mO (T : Nm) (n : Nat) (N : List Str) : IO → Scope → Option Expr → Bool
  | .no, _, a => match a with
    | none => true
    | _ => false
  | .so e, sc, a => match a with
    | some a' => mE T n N e sc a'
    | _ => false
def mI (T : Nm) (n : Nat) (N : List Str) : IT → Scope → Expr → Bool
  | .seq e, sc, a => mE T n N e sc a
  | .rng e, sc, a => match a with
    | .Call (.Name x _) [a'] [] _ => bltB sc x "range" && mE T n N e sc a'
    | _ => false
end

def isCall0 : Expr → Bool
  | .Call _ _ _ _ => true
  | _ => false
def isComp : Expr → Bool
  | .ListComp _ _ _ _ => true
  | _ => false
def isTup : Expr → Bool
  | .Tuple _ _ _ => true
  | _ => false
def locOnly (sc : Scope) (x : Str) : Bool := match sc.names.lookup x with
  | some .local => true
  | _ => false
/-- a comprehension given to a name: whether the store goes the short way -/
def swB (sc : Scope) (x : Str) (px : Pos) : Expr → Bool
  | .ListComp _ _ scope pos => locOnly sc x && (px.line == pos.line) && !(scope.names.any fun p => p.1 == x && (p.2 == NameKind.local || p.2 == NameKind.cell))
  | _ => false
def clsB (T : Nm) (sc : Scope) (c : Nat) (x : Str) : Bool := decide (T.cls[c]? = some x) && glB sc x && dbgB x
/-- the clauses -/
def mH (T : Nm) (n : Nat) (N : List Str) : List Hd → Scope → List ExceptHandler → Bool
  | [], _, [] => true
  | hd :: r, sc, .ExceptHandler (some (.Name x _)) nm [.Return (some e) _] _ :: as => clsB T sc hd.c x && (match hd.i, nm with
      | none, none => true
      | some i, some y => decide (N[i]? = some y) && locOnly sc y
      | _, _ => false) && mE { T with hot := true } n N hd.e sc e && mH T n N r sc as
  | _, _, _ => false
mutual
def mS (T : Nm) (n : Nat) (N : List Str) : IS → Scope → Stmt → Bool
  | .never, _, _ => true
  | .fset _ _ _, _, _ => false
  | .expr e, sc, s => match s with
    | .Expr e' _ => mE T n N e sc e' && !isComp e'
    | _ => false
  | .app a e, sc, s => match s with
    | .Expr (.Call (.Attribute a' m ap) [e'] [] cp) _ => (m == ("append" : Str)) && (ap.endLine == cp.line) && mE T n N a sc a' && mE T n N e sc e' && !isCall0 a'
    | _ => false
  | .asg tg e, sc, s => match s with
    | .Assign [t'] e' _ => tgB N sc tg t' && mE T n N e sc e' && !(isTup t' && (isTup e' || isComp e'))
    | _ => false
  | .par i j a b, sc, s => match s with
    | .Assign [.Tuple [.Name x px, .Name y py] _ _] (.Tuple [a', b'] _ _) _ => decide (N[i]? = some x) && decide (N[j]? = some y) && decide (i ≠ j) && locOnly sc x && locOnly sc y && !(x == y) && (px.line == py.line) && !([a', b'].all (foldedForSure 8)) && !([a', b'].all (constantsAlone 8)) && mE T n N a sc a' && mE T n N b sc b'
    | _ => false
  | .sub o i e, sc, s => match s with
    | .Assign [.Subscript o' i' _] e' _ => mE T n N o sc o' && mE T n N i sc i' && mE T n N e sc e'
    | _ => false
  | .ifs c a b, sc, s => match s with
    | .If c' a' b' _ => mE T n N c sc c' && mSs T n N a sc a' && mSs T n N b sc b'
    | _ => false
  | .for_ tg it body, sc, s => match s with
    | .For t' it' body' [] _ => tgB N sc tg t' && mI T n N it sc it' && mSs T n N body sc body'
    | _ => false
  | .whl c body, sc, s => match s with
    | .While c' body' [] _ => mE T n N c sc c' && mSs T n N body sc body'
    | _ => false
  | .ret _ e, sc, s => match s with
    | .Return (some e') _ => mE T n N e sc e'
    | _ => false
  | .retN, _, s => match s with
    | .Return none _ => true
    | _ => false
  | .pass, _, s => match s with
    | .Pass _ => true
    | _ => false
  | .brk, _, s => match s with
    | .Break _ => true
    | _ => false
  | .cont, _, s => match s with
    | .Continue _ => true
    | _ => false
  | .raise c es, sc, s => match s with
    | .Raise (some (.Call (.Name x _) as [] _)) none _ => clsB T sc c x && mL T n N es sc as && decide (T.md < 2)
    | _ => false
  | .try_ body hs, sc, s => match s with
    | .Try body' hs' [] [] _ => mSs T n N body sc body' && mH T n N hs sc hs' && !hs.isEmpty
    | _ => false
def mSs (T : Nm) (n : Nat) (N : List Str) : SL → Scope → List Stmt → Bool
  | .nil, _, as => match as with
    | [] => true
    | _ => false
  | .cons e r, sc, as => match as with
    | a :: as' => mS T n N e sc a && mSs T n N r sc as'
    | _ => false
end
end Fb

set_option linter.all false
set_option maxRecDepth 100000
set_option maxHeartbeats 1000000
namespace Fb
open PySem PySem.Spec PyProof.Rows L2

/-- where changeable objects stand; which objects are no more changed -/
structure Gh where
  io : Nat → Option Addr
  fz : Addr → Prop
  ow : Addr → Prop

/-- a list that nobody changes any more -/
def SqF (g : Gh) (H : Hp) (a : Addr) (vs : List V) : Prop :=
  (H a = some (.lst vs) ∧ g.fz a) ∨ ∃ o, H a = some (.frz o (.lst vs))
theorem SqF.rd {g : Gh} {H : Hp} {a : Addr} {vs : List V} (h : SqF g H a vs) : Rd H a (.lst vs) := by
  rcases h with ⟨h, _⟩ | ⟨o, h⟩
  · exact .inl h
  · exact .inr ⟨o, h⟩
theorem SqF.sq {K : PySem.W.Frag} {g : Gh} {H : Hp} {a : Addr} {vs : List V} (h : SqF g H a vs) : SqL K H a vs := .inl h.rd

mutual
inductive RelD (K : PySem.W.Frag) (g : Gh) (H : Hp) : D → V → Prop
  | non : RelD K g H .non .non
  | bl (b : Bool) : RelD K g H (.bl b) (.bl b)
  | int (i : Int) : RelD K g H (.int i) (.int i)
  | str (s : Str) : RelD K g H (.str s) (.str s)
  | tup {a : Addr} {vs : List V} {ds : List D} : SqT K H a vs → RelDs K g H ds vs → RelD K g H (.tup ds) (.ref a)
  | lst {a : Addr} {vs : List V} {ds : List D} : SqF g H a vs → RelDs K g H ds vs → RelD K g H (.lst ds) (.ref a)
  | ref {l : Nat} {a : Addr} : g.io l = some a → RelD K g H (.ref l) (.ref a)
  | obj {c : Nat} {a dx : Addr} {ns : List Str} {fs : List D} {vs : List V} : g.fz a → H a = some (.ins (cad K c) dx (ns.zip vs)) → ns.length = vs.length → RelDs K g H fs vs → RelD K g H (.obj c ns fs) (.ref a)
  | clo {f c : Addr} {q : Str} {sl : List (Option D)} {sv : L2.St} : g.fz c → H c = some (LamX.CodeO c q) → RelSl K g H sl sv → RelD K g H (.clo f c q sl sv) (.ref f)
  | exc {a : Addr} {d : Option Addr} {c : Nat} {ns : List Str} {fs : List D} {vs : List V} : ((d = none ∧ fs = []) ∨ ∃ dd, d = some dd ∧ g.fz dd ∧ H dd = some (.xd (ns.zip vs)) ∧ ns.length = vs.length) → RelDs K g H fs vs → RelD K g H (.exc a d c ns fs) (.ref a)
inductive RelDs (K : PySem.W.Frag) (g : Gh) (H : Hp) : List D → List V → Prop
  | nil : RelDs K g H [] []
  | cons {d : D} {v : V} {ds : List D} {vs : List V} : RelD K g H d v → RelDs K g H ds vs → RelDs K g H (d :: ds) (v :: vs)
/-- slots -/
inductive RelSl (K : PySem.W.Frag) (g : Gh) (H : Hp) : List (Option D) → L2.St → Prop
  | nil : RelSl K g H [] []
  | no {o : Option V} {ds : List (Option D)} {vs : L2.St} : RelSl K g H ds vs → RelSl K g H (none :: ds) (o :: vs)
  | so {d : D} {v : V} {ds : List (Option D)} {vs : L2.St} : RelD K g H d v → RelSl K g H ds vs → RelSl K g H (some d :: ds) (some v :: vs)
end

structure Ext0 (g : Gh) (H : Hp) (g' : Gh) (H' : Hp) : Prop where
  io : ∀ l a, g.io l = some a → g'.io l = some a
  fz : ∀ a, g.fz a → g'.fz a
  fzH : ∀ a, g.fz a → H' a = H a
  tup : ∀ a xs, H a = some (.tup xs) → H' a = some (.tup xs)
  frz : ∀ a o u, H a = some (.frz o u) → H' a = some (.frz o u)
structure Ext (g : Gh) (H : Hp) (g' : Gh) (H' : Hp) : Prop extends Ext0 g H g' H' where
  ow : ∀ a, g.ow a → g'.ow a
  owH : ∀ a, g.ow a → H' a = H a
theorem Ext.refl (g : Gh) (H : Hp) : Ext g H g H := ⟨⟨fun _ _ h => h, fun _ h => h, fun _ _ => rfl, fun _ _ h => h, fun _ _ _ h => h⟩, fun _ h => h, fun _ _ => rfl⟩
theorem Ext.trans {g g1 g2 : Gh} {H H1 H2 : Hp} (a : Ext g H g1 H1) (b : Ext g1 H1 g2 H2) : Ext g H g2 H2 :=
  ⟨⟨fun l x h => b.io l x (a.io l x h), fun x h => b.fz x (a.fz x h), fun x h => (b.fzH x (a.fz x h)).trans (a.fzH x h), fun x xs h => b.tup x xs (a.tup x xs h), fun x o u h => b.frz x o u (a.frz x o u h)⟩,
    fun x h => b.ow x (a.ow x h), fun x h => (b.owH x (a.ow x h)).trans (a.owH x h)⟩

theorem sqT_mono {K : PySem.W.Frag} {g g' : Gh} {H H' : Hp} (e : Ext0 g H g' H') {a : Addr} {vs : List V} (h : SqT K H a vs) : SqT K H' a vs := by
  rcases h with (h | ⟨o, h⟩) | h
  · exact .inl (.inl (e.tup _ _ h))
  · exact .inl (.inr ⟨o, e.frz _ _ _ h⟩)
  · exact .inr h
theorem sqF_mono {g g' : Gh} {H H' : Hp} (e : Ext0 g H g' H') {a : Addr} {vs : List V} (h : SqF g H a vs) : SqF g' H' a vs := by
  rcases h with ⟨h, z⟩ | ⟨o, h⟩
  · exact .inl ⟨(e.fzH _ z).trans h, e.fz _ z⟩
  · exact .inr ⟨o, e.frz _ _ _ h⟩
mutual
theorem RelD.mono0 {K : PySem.W.Frag} {g g' : Gh} {H H' : Hp} (e : Ext0 g H g' H') : ∀ {d : D} {v : V}, RelD K g H d v → RelD K g' H' d v
  | _, _, .non => .non
  | _, _, .bl b => .bl b
  | _, _, .int i => .int i
  | _, _, .str s => .str s
  | _, _, .tup h r => .tup (sqT_mono e h) (RelDs.mono0 e r)
  | _, _, .lst h r => .lst (sqF_mono e h) (RelDs.mono0 e r)
  | _, _, .ref h => .ref (e.io _ _ h)
  | _, _, .obj h1 h2 h3 r => .obj (e.fz _ h1) ((e.fzH _ h1).trans h2) h3 (RelDs.mono0 e r)
  | _, _, .clo h1 h2 r => .clo (e.fz _ h1) ((e.fzH _ h1).trans h2) (RelSl.mono0 e r)
  | _, _, .exc h r => .exc (h.imp id fun ⟨dd, h1, h2, h3, h4⟩ => ⟨dd, h1, e.fz _ h2, (e.fzH _ h2).trans h3, h4⟩) (RelDs.mono0 e r)
theorem RelDs.mono0 {K : PySem.W.Frag} {g g' : Gh} {H H' : Hp} (e : Ext0 g H g' H') : ∀ {ds : List D} {vs : List V}, RelDs K g H ds vs → RelDs K g' H' ds vs
  | _, _, .nil => .nil
  | _, _, .cons h r => .cons (RelD.mono0 e h) (RelDs.mono0 e r)
theorem RelSl.mono0 {K : PySem.W.Frag} {g g' : Gh} {H H' : Hp} (e : Ext0 g H g' H') : ∀ {ds : List (Option D)} {vs : L2.St}, RelSl K g H ds vs → RelSl K g' H' ds vs
  | _, _, .nil => .nil
  | _, _, .no r => .no (RelSl.mono0 e r)
  | _, _, .so h r => .so (RelD.mono0 e h) (RelSl.mono0 e r)
end
theorem RelD.mono {K : PySem.W.Frag} {g g' : Gh} {H H' : Hp} (e : Ext g H g' H') {d : D} {v : V} (r : RelD K g H d v) : RelD K g' H' d v := r.mono0 e.toExt0
theorem RelDs.mono {K : PySem.W.Frag} {g g' : Gh} {H H' : Hp} (e : Ext g H g' H') {d : List D} {v : List V} (r : RelDs K g H d v) : RelDs K g' H' d v := r.mono0 e.toExt0
section
variable {K : PySem.W.Frag} {g g' : Gh} {H H' : Hp}
theorem RelDs.length : ∀ {ds : List D} {vs : List V}, RelDs K g H ds vs → ds.length = vs.length
  | _, _, .nil => rfl
  | _, _, .cons _ r => by rw [List.length_cons, List.length_cons, RelDs.length r]
theorem RelDs.get : ∀ {ds : List D} {vs : List V} {i : Nat} {v : V}, RelDs K g H ds vs → vs[i]? = some v → ∃ d, ds[i]? = some d ∧ RelD K g H d v
  | _, _, i, _, .nil, e => by simp at e
  | _, _, 0, _, .cons h _, e => by simp at e; subst e; exact ⟨_, rfl, h⟩
  | _, _, i + 1, v, .cons _ r, e => by
    obtain ⟨d, h1, h2⟩ := RelDs.get (i := i) (v := v) r (by simpa using e)
    exact ⟨d, by simpa using h1, h2⟩
theorem RelDs.getD : ∀ {ds : List D} {vs : List V} {i : Nat} {d : D}, RelDs K g H ds vs → ds[i]? = some d → ∃ v, vs[i]? = some v ∧ RelD K g H d v
  | _, _, i, _, .nil, e => by simp at e
  | _, _, 0, _, .cons h _, e => by simp at e; subst e; exact ⟨_, rfl, h⟩
  | _, _, i + 1, v, .cons _ r, e => by
    obtain ⟨d, h1, h2⟩ := RelDs.getD (i := i) (d := v) r (by simpa using e)
    exact ⟨d, by simpa using h1, h2⟩
theorem RelDs.append : ∀ {ds es : List D} {vs ws : List V}, RelDs K g H ds vs → RelDs K g H es ws → RelDs K g H (ds ++ es) (vs ++ ws)
  | _, _, _, _, .nil, s => s
  | _, _, _, _, .cons h r, s => .cons h (RelDs.append r s)
theorem RelDs.take : ∀ {ds : List D} {vs : List V} (n : Nat), RelDs K g H ds vs → RelDs K g H (ds.take n) (vs.take n)
  | _, _, 0, _ => .nil
  | _, _, _ + 1, .nil => .nil
  | _, _, n + 1, .cons h r => .cons h (RelDs.take n r)
theorem RelDs.drop : ∀ {ds : List D} {vs : List V} (n : Nat), RelDs K g H ds vs → RelDs K g H (ds.drop n) (vs.drop n)
  | _, _, 0, r => r
  | _, _, _ + 1, .nil => .nil
  | _, _, n + 1, .cons _ r => RelDs.drop n r
theorem RelDs.set {d : D} {v : V} (q : RelD K g H d v) : ∀ {ds : List D} {vs : List V} (n : Nat), RelDs K g H ds vs → RelDs K g H (ds.set n d) (vs.set n v)
  | _, _, _, .nil => .nil
  | _, _, 0, .cons _ r => .cons q r
  | _, _, n + 1, .cons h r => .cons h (RelDs.set q n r)
theorem RelDs.rep {ds : List D} {vs : List V} (r : RelDs K g H ds vs) : ∀ n : Nat, RelDs K g H (List.replicate n ds).flatten (List.replicate n vs).flatten
  | 0 => .nil
  | n + 1 => by
    rw [List.replicate_succ, List.replicate_succ, List.flatten_cons, List.flatten_cons]
    exact r.append (RelDs.rep r n)
theorem RelDs.at {ds : List D} {vs : List V} {i : Int} {d : D} (r : RelDs K g H ds vs) (e : atI ds i = some d) : ∃ v, atI vs i = some v ∧ RelD K g H d v := by
  unfold atI at e ⊢
  rw [r.length] at e
  cases h : ixN vs.length i with
  | none => rw [h] at e; cases e
  | some j =>
    rw [h] at e
    exact r.getD e
end

/-- an object and its content -/
def ORel (K : PySem.W.Frag) (g : Gh) (H : Hp) (a : Addr) : O → Prop
  | .lst ds => ∃ vs, H a = some (.lst vs) ∧ RelDs K g H ds vs
  | .ins c ns fs => ∃ dx vs, H a = some (.ins (cad K c) dx (ns.zip vs)) ∧ ns.length = vs.length ∧ RelDs K g H fs vs
  | .dic _ => ∃ kvs, H a = some (.dK kvs)
/-- an object that nothing speaks of -/
structure Loose (g : Gh) (a : Addr) : Prop where
  fz : ¬ g.fz a
  ow : ¬ g.ow a
  io : ∀ l, g.io l ≠ some a
structure HRel (K : PySem.W.Frag) (g : Gh) (h : DH) (H : Hp) : Prop where
  obj : ∀ l o, h l = some o → ∃ a, g.io l = some a ∧ ¬ g.fz a ∧ ORel K g H a o
  inj : ∀ l l' a, g.io l = some a → g.io l' = some a → l = l'
  liv : ∀ l a, g.io l = some a → H a ≠ none
  fzl : ∀ a, g.fz a → H a ≠ none
  owl : ∀ a, g.ow a → H a ≠ none
  owf : ∀ a, g.ow a → ¬ g.fz a
  owio : ∀ l a, g.io l = some a → ¬ g.ow a
  fin : ∃ n, ∀ l, n ≤ l → g.io l = none
  tab : LamX.Tabs (tau K) H
  tbl : ∀ a ps, H a = some (.tbl ps) → Loose g a
  owx : ∀ a φ, g.ow a → H a ≠ some (.ext φ)
def RelS (K : PySem.W.Frag) (g : Gh) (H : Hp) (σd : Sg) (σ : L2.St) : Prop :=
  σd.length = σ.length ∧ ∀ (i : Nat) d, σd[i]? = some (some d) → ∃ v, σ[i]? = some (some v) ∧ RelD K g H d v
theorem RelS.mono {K : PySem.W.Frag} {g g' : Gh} {H H' : Hp} {σd : Sg} {σ : L2.St} (e : Ext g H g' H') (r : RelS K g H σd σ) : RelS K g' H' σd σ :=
  ⟨r.1, fun i d q => let ⟨v, h1, h2⟩ := r.2 i d q; ⟨v, h1, h2.mono e⟩⟩
theorem RelSl.to {K : PySem.W.Frag} {g : Gh} {H : Hp} : ∀ {sl : Sg} {sv : L2.St}, RelSl K g H sl sv → RelS K g H sl sv
  | _, _, .nil => ⟨rfl, fun i d q => by simp at q⟩
  | _, _, .no r => by
    have h := RelSl.to r
    refine ⟨by simp [h.1], fun i d q => ?_⟩
    cases i with
    | zero => simp at q
    | succ i => simpa using h.2 i d (by simpa using q)
  | _, _, .so a r => by
    have h := RelSl.to r
    refine ⟨by simp [h.1], fun i d q => ?_⟩
    cases i with
    | zero => simp at q; subst q; exact ⟨_, rfl, a⟩
    | succ i => simpa using h.2 i d (by simpa using q)
theorem RelS.sl {K : PySem.W.Frag} {g : Gh} {H : Hp} : ∀ {sl : Sg} {sv : L2.St}, RelS K g H sl sv → RelSl K g H sl sv
  | [], [], _ => .nil
  | [], _ :: _, h => by cases h.1
  | _ :: _, [], h => by cases h.1
  | o :: sl, v :: sv, h => by
    have ht : RelS K g H sl sv := ⟨by simpa using h.1, fun i d q => by simpa using h.2 (i + 1) d (by simpa using q)⟩
    cases o with
    | none => exact .no (RelS.sl ht)
    | some d =>
      obtain ⟨w, h1, h2⟩ := h.2 0 d rfl
      simp at h1
      subst h1
      exact .so h2 (RelS.sl ht)
theorem ORel.mono0 {K : PySem.W.Frag} {g g' : Gh} {H H' : Hp} (e : Ext0 g H g' H') {a : Addr} {o : O} (h : ORel K g H a o) (ha : H' a = H a) : ORel K g' H' a o := by
  cases o with
  | lst ds => obtain ⟨vs, h1, h2⟩ := h; exact ⟨vs, ha.trans h1, h2.mono0 e⟩
  | ins _ _ _ => obtain ⟨dx, vs, h1, h2, h3⟩ := h; exact ⟨dx, vs, ha.trans h1, h2, h3.mono0 e⟩
  | dic _ => obtain ⟨kvs, h1⟩ := h; exact ⟨kvs, ha.trans h1⟩
theorem ORel.kind {K : PySem.W.Frag} {g : Gh} {H : Hp} {a : Addr} {o : O} (h : ORel K g H a o) : ∃ u, H a = some u ∧ ((∃ vs, u = .lst vs) ∨ (∃ C dx fs, u = .ins C dx fs) ∨ ∃ kvs, u = .dK kvs) := by
  cases o with
  | lst ds => obtain ⟨vs, h1, h2⟩ := h; exact ⟨_, h1, .inl ⟨vs, rfl⟩⟩
  | ins _ _ _ => obtain ⟨dx, vs, h1, h2, h3⟩ := h; exact ⟨_, h1, .inr (.inl ⟨_, _, _, rfl⟩)⟩
  | dic _ => obtain ⟨kvs, h1⟩ := h; exact ⟨_, h1, .inr (.inr ⟨_, rfl⟩)⟩
theorem ORel.mono {K : PySem.W.Frag} {g g' : Gh} {H H' : Hp} (e : Ext g H g' H') {a : Addr} {o : O} (h : ORel K g H a o) (ha : H' a = H a) : ORel K g' H' a o := h.mono0 e.toExt0 ha

section
variable {K : PySem.W.Frag} {g : Gh} {h : DH} {H : Hp}
theorem HRel.nl (R : HRel K g h H) {p : Addr} (hp : H p = none) {l : Nat} {a : Addr} (q : g.io l = some a) : a ≠ p := fun z => R.liv l a q (by rw [z]; exact hp)
theorem HRel.nf (R : HRel K g h H) {p : Addr} (hp : H p = none) {a : Addr} (q : g.fz a) : a ≠ p := fun z => R.fzl a q (by rw [z]; exact hp)
theorem HRel.no (R : HRel K g h H) {p : Addr} (hp : H p = none) {a : Addr} (q : g.ow a) : a ≠ p := fun z => R.owl a q (by rw [z]; exact hp)
theorem HRel.loose (R : HRel K g h H) {p : Addr} (hp : H p = none) : Loose g p := ⟨fun q => R.nf hp q rfl, fun q => R.no hp q rfl, fun l q => R.nl hp q rfl⟩
theorem tabs_upd {T : List (Addr × Str)} {H : Hp} {p : Addr} {o : HO} (t : LamX.Tabs T H) (h1 : ∀ ps, H p ≠ some (.tbl ps)) (h2 : ∀ f, H p ≠ some (.ext f)) : LamX.Tabs T (upd H p o) := fun q hq => by
  obtain ⟨ps, k1, k2, k3⟩ := t q hq
  refine ⟨ps, by rw [upd_ne (show q.1 ≠ p from fun z => h1 ps (z ▸ k1))]; exact k1, k2, fun pos cv hc => ?_⟩
  obtain ⟨c, e1, e2⟩ := k3 pos cv hc
  exact ⟨c, e1, by rw [upd_ne (show c ≠ p from fun z => h2 _ (z ▸ e2))]; exact e2⟩
/-- something that nothing speaks of is written (it is no tuple and not locked) -/
theorem set_loose {p : Addr} {o : HO} (lo : Loose g p) (h1 : ∀ xs, H p ≠ some (.tup xs)) (h2 : ∀ o u, H p ≠ some (.frz o u)) (h3 : ∀ ps, H p ≠ some (.tbl ps)) (h4 : ∀ f, H p ≠ some (.ext f)) (h5 : ∀ ps, o ≠ .tbl ps) (R : HRel K g h H) : Ext g H g (upd H p o) ∧ HRel K g h (upd H p o) := by
  have nl : ∀ {l a}, g.io l = some a → a ≠ p := fun q z => lo.io _ (z ▸ q)
  have nf : ∀ {a}, g.fz a → a ≠ p := fun q z => lo.fz (z ▸ q)
  have no : ∀ {a}, g.ow a → a ≠ p := fun q z => lo.ow (z ▸ q)
  have e : Ext g H g (upd H p o) := ⟨⟨fun _ _ z => z, fun _ z => z, fun a z => upd_ne (nf z), fun a xs z => by rw [upd_ne (show a ≠ p from fun q => h1 xs (by rw [← q]; exact z))]; exact z, fun a o u z => by rw [upd_ne (show a ≠ p from fun q => h2 o u (by rw [← q]; exact z))]; exact z⟩, fun _ z => z, fun a z => upd_ne (no z)⟩
  refine ⟨e, fun l o' hl => ?_, R.inj, fun l a q z => ?_, fun a q z => ?_, fun a q z => ?_, R.owf, R.owio, R.fin, tabs_upd R.tab h3 h4, fun a ps z => ?_, fun a φ q z => R.owx a φ q (by rw [upd_ne (no q)] at z; exact z)⟩
  · obtain ⟨a, h1, h2, h3⟩ := R.obj l o' hl
    exact ⟨a, h1, h2, h3.mono e (upd_ne (nl h1))⟩
  · rw [upd_ne (nl q)] at z
    exact R.liv l a q z
  · rw [upd_ne (nf q)] at z
    exact R.fzl a q z
  · rw [upd_ne (no q)] at z
    exact R.owl a q z
  · by_cases ha : a = p
    · rw [ha, upd_same] at z
      exact absurd (Option.some.inj z) (h5 ps)
    · rw [upd_ne ha] at z
      exact R.tbl a ps z
/-- something new that is not changed: a tuple, a range .. -/
theorem new_any {p : Addr} {o : HO} (hp : H p = none) (R : HRel K g h H) (ho : ∀ ps, o ≠ .tbl ps := by intro ps z; cases z) : Ext g H g (upd H p o) ∧ HRel K g h (upd H p o) :=
  set_loose (R.loose hp) (fun xs z => by rw [hp] at z; cases z) (fun o u z => by rw [hp] at z; cases z) (fun ps z => by rw [hp] at z; cases z) (fun f z => by rw [hp] at z; cases z) ho R
theorem new_tup {p : Addr} {ds : List D} {vs : List V} (hp : H p = none) (R : HRel K g h H) (r : RelDs K g H ds vs) : Ext g H g (upd H p (.tup vs)) ∧ HRel K g h (upd H p (.tup vs)) ∧ RelD K g (upd H p (.tup vs)) (.tup ds) (.ref p) :=
  let ⟨e, R'⟩ := new_any (o := .tup vs) hp R
  ⟨e, R', .tup (SqT.of upd_same) (r.mono e)⟩
/-- a list that nothing speaks of is one that is not changed -/
theorem adopt_frz {p : Addr} {ds : List D} {vs : List V} (lo : Loose g p) (hp : H p = some (.lst vs)) (R : HRel K g h H) (r : RelDs K g H ds vs) :
    ∃ g', Ext g H g' H ∧ HRel K g' h H ∧ RelD K g' H (.lst ds) (.ref p) := by
  have e : Ext g H ⟨g.io, fun a => g.fz a ∨ a = p, g.ow⟩ H := ⟨⟨fun _ _ z => z, fun _ z => .inl z, fun _ _ => rfl, fun _ _ z => z, fun _ _ _ z => z⟩, fun _ z => z, fun _ _ => rfl⟩
  refine ⟨⟨g.io, fun a => g.fz a ∨ a = p, g.ow⟩, e, ⟨fun l o' hl => ?_, R.inj, R.liv, fun a q z => ?_, R.owl, fun a q z => ?_, R.owio, R.fin, R.tab, fun a ps z => ⟨fun q => q.elim (R.tbl a ps z).fz fun q => (by rw [q, hp] at z; cases z), (R.tbl a ps z).ow, (R.tbl a ps z).io⟩, R.owx⟩, .lst (.inl ⟨hp, .inr rfl⟩) (r.mono e)⟩
  · obtain ⟨a, h1, h2, h3⟩ := R.obj l o' hl
    exact ⟨a, h1, fun z => z.elim h2 fun z => lo.io l (z ▸ h1), h3.mono e rfl⟩
  · rcases q with q | q
    · exact R.fzl a q z
    · rw [q, hp] at z; cases z
  · rcases z with z | z
    · exact R.owf a q z
    · exact lo.ow (z ▸ q)
/-- .. one that may be changed -/
theorem adopt_mutO {p : Addr} {ob : O} (lo : Loose g p) (hp : H p ≠ none) (R : HRel K g h H) (r : ORel K g H p ob) :
    ∃ g' l, h l = none ∧ Ext g H g' H ∧ HRel K g' (put h l ob) H ∧ RelD K g' H (.ref l) (.ref p) := by
  obtain ⟨n, hn⟩ := R.fin
  have hln : h n = none := by
    cases e : h n with
    | none => rfl
    | some o =>
      obtain ⟨a, h1, _⟩ := R.obj n o e
      rw [hn n (Nat.le_refl _)] at h1
      cases h1
  have ex : ∀ l a, g.io l = some a → (fun l => if l = n then some p else g.io l) l = some a := fun l a q => by
    have : l ≠ n := fun z => by rw [z, hn n (Nat.le_refl _)] at q; cases q
    show (if l = n then some p else g.io l) = some a
    rw [if_neg this]
    exact q
  have e : Ext g H ⟨fun l => if l = n then some p else g.io l, g.fz, g.ow⟩ H := ⟨⟨ex, fun _ z => z, fun _ _ => rfl, fun _ _ z => z, fun _ _ _ z => z⟩, fun _ z => z, fun _ _ => rfl⟩
  have inv : ∀ l a, (if l = n then some p else g.io l) = some a → (l = n ∧ a = p) ∨ (l ≠ n ∧ g.io l = some a) := fun l a q => by
    by_cases hl : l = n
    · rw [if_pos hl] at q
      exact .inl ⟨hl, (Option.some.inj q).symm⟩
    · rw [if_neg hl] at q
      exact .inr ⟨hl, q⟩
  refine ⟨⟨fun l => if l = n then some p else g.io l, g.fz, g.ow⟩, n, hln, e, ⟨fun l o' hl => ?_, fun l l' a h1 h2 => ?_, fun l a q z => ?_, R.fzl, R.owl, R.owf, fun l a q => ?_, ⟨n + 1, fun l hl => ?_⟩, R.tab, fun a ps z => ⟨(R.tbl a ps z).fz, (R.tbl a ps z).ow, fun l q => (inv l a q).elim (fun q => by
      rw [q.2] at z
      obtain ⟨u, r1, r2⟩ := r.kind
      rw [r1] at z
      cases z
      rcases r2 with ⟨_, r2⟩ | ⟨_, _, _, r2⟩ | ⟨_, r2⟩ <;> cases r2) fun q => (R.tbl a ps z).io l q.2⟩, R.owx⟩, .ref (if_pos rfl)⟩
  · by_cases hk : l = n
    · subst hk
      rw [put_same] at hl
      cases hl
      exact ⟨p, if_pos rfl, lo.fz, r.mono e rfl⟩
    · rw [put_ne hk] at hl
      obtain ⟨a, h1, h2, h3⟩ := R.obj l o' hl
      exact ⟨a, ex l a h1, h2, h3.mono e rfl⟩
  · rcases inv l a h1 with ⟨e1, e2⟩ | ⟨e1, e2⟩ <;> rcases inv l' a h2 with ⟨f1, f2⟩ | ⟨f1, f2⟩
    · rw [e1, f1]
    · exact absurd (e2 ▸ f2) (lo.io l')
    · exact absurd (f2 ▸ e2) (lo.io l)
    · exact R.inj l l' a e2 f2
  · rcases inv l a q with ⟨e1, e2⟩ | ⟨e1, e2⟩
    · rw [e2] at z; exact hp z
    · exact R.liv l a e2 z
  · rcases inv l a q with ⟨e1, e2⟩ | ⟨e1, e2⟩
    · rw [e2]; exact lo.ow
    · exact R.owio l a e2
  · show (if l = n then some p else g.io l) = none
    rw [if_neg (by omega)]
    exact hn l (by omega)
theorem adopt_mut {p : Addr} {ds : List D} {vs : List V} (lo : Loose g p) (hp : H p = some (.lst vs)) (R : HRel K g h H) (r : RelDs K g H ds vs) :
    ∃ g' l, h l = none ∧ Ext g H g' H ∧ HRel K g' (put h l (.lst ds)) H ∧ RelD K g' H (.ref l) (.ref p) :=
  adopt_mutO lo (by rw [hp]; exact fun z => by cases z) R ⟨vs, hp, r⟩
/-- a new list that is not changed -/
theorem new_frz {p : Addr} {ds : List D} {vs : List V} (hp : H p = none) (R : HRel K g h H) (r : RelDs K g H ds vs) :
    ∃ g', Ext g H g' (upd H p (.lst vs)) ∧ HRel K g' h (upd H p (.lst vs)) ∧ RelD K g' (upd H p (.lst vs)) (.lst ds) (.ref p) := by
  obtain ⟨e, R'⟩ := new_any (o := .lst vs) hp R
  obtain ⟨g', e2, R2, r2⟩ := adopt_frz (R.loose hp) upd_same R' (r.mono e)
  exact ⟨g', e.trans e2, R2, r2⟩
/-- a new object that may be changed -/
theorem new_mut {p : Addr} {ds : List D} {vs : List V} (hp : H p = none) (R : HRel K g h H) (r : RelDs K g H ds vs) :
    ∃ g' l, h l = none ∧ Ext g H g' (upd H p (.lst vs)) ∧ HRel K g' (put h l (.lst ds)) (upd H p (.lst vs)) ∧ RelD K g' (upd H p (.lst vs)) (.ref l) (.ref p) := by
  obtain ⟨e, R'⟩ := new_any (o := .lst vs) hp R
  obtain ⟨g', l, hl, e2, R2, r2⟩ := adopt_mut (R.loose hp) upd_same R' (r.mono e)
  exact ⟨g', l, hl, e.trans e2, R2, r2⟩
theorem new_dic {p : Addr} (hp : H p = none) (R : HRel K g h H) :
    ∃ g' l, h l = none ∧ Ext g H g' (upd H p (.dK [])) ∧ HRel K g' (put h l (.dic [])) (upd H p (.dK [])) ∧ RelD K g' (upd H p (.dK [])) (.ref l) (.ref p) := by
  obtain ⟨e, R'⟩ := new_any (o := .dK []) hp R
  obtain ⟨g', l, hl, e2, R2, r2⟩ := adopt_mutO (ob := .dic []) (R.loose hp) (by rw [upd_same]; exact fun z => by cases z) R' ⟨[], upd_same⟩
  exact ⟨g', l, hl, e.trans e2, R2, r2⟩
/-- a changeable object is changed -/
theorem set_mutO {l : Nat} {a : Addr} {o o' : O} {u : HO} (R : HRel K g h H) (hl : h l = some o) (ha : g.io l = some a) (hu : (∃ vs, u = .lst vs) ∨ (∃ C dx fs, u = .ins C dx fs) ∨ ∃ kvs, u = .dK kvs)
    (r : ∀ e : Ext g H g (upd H a u), ORel K g (upd H a u) a o') : Ext g H g (upd H a u) ∧ HRel K g (put h l o') (upd H a u) := by
  obtain ⟨a', h1, h2, h0⟩ := R.obj l _ hl
  obtain ⟨u0, h3, h4⟩ := h0.kind
  rw [ha] at h1
  cases h1
  have no : ¬ g.ow a := R.owio l a ha
  have nt : ∀ x, ((∃ xs, x = HO.tup xs) ∨ (∃ o u, x = HO.frz o u) ∨ (∃ ps, x = HO.tbl ps) ∨ ∃ f, x = HO.ext f) → x ≠ u0 := fun x hx z => by
    subst z
    rcases hx with ⟨_, q⟩ | ⟨_, _, q⟩ | ⟨_, q⟩ | ⟨_, q⟩ <;> subst q <;> rcases h4 with ⟨_, z⟩ | ⟨_, _, _, z⟩ | ⟨_, z⟩ <;> cases z
  have nu : ∀ ps, u ≠ .tbl ps := fun ps z => by
    subst z
    rcases hu with ⟨_, z⟩ | ⟨_, _, _, z⟩ | ⟨_, z⟩ <;> cases z
  have e : Ext g H g (upd H a u) := ⟨⟨fun _ _ z => z, fun _ z => z, fun b z => upd_ne fun q => h2 (q ▸ z), fun b xs z => by
      rw [upd_ne fun q => by rw [q, h3] at z; exact nt _ (.inl ⟨_, rfl⟩) (Option.some.inj z).symm]; exact z, fun b o u z => by rw [upd_ne fun q => by rw [q, h3] at z; exact nt _ (.inr (.inl ⟨_, _, rfl⟩)) (Option.some.inj z).symm]; exact z⟩, fun _ z => z, fun b z => upd_ne fun q => no (q ▸ z)⟩
  refine ⟨e, ⟨fun k o hk => ?_, R.inj, fun k b q z => ?_, fun b q z => ?_, fun b q z => ?_, R.owf, R.owio, R.fin, tabs_upd R.tab (fun ps z => by rw [h3] at z; exact nt _ (.inr (.inr (.inl ⟨_, rfl⟩))) (Option.some.inj z).symm) (fun f z => by rw [h3] at z; exact nt _ (.inr (.inr (.inr ⟨_, rfl⟩))) (Option.some.inj z).symm), fun b ps z => R.tbl b ps (by
      by_cases hb : b = a
      · rw [hb, upd_same] at z; exact absurd (Option.some.inj z) (nu ps)
      · rw [upd_ne hb] at z; exact z), fun b φ q z => R.owx b φ q (by rw [upd_ne (show b ≠ a from fun q' => no (q' ▸ q))] at z; exact z)⟩⟩
  · by_cases hkl : k = l
    · subst hkl
      rw [put_same] at hk
      cases hk
      exact ⟨a, ha, h2, r e⟩
    · rw [put_ne hkl] at hk
      obtain ⟨b, b1, b2, b3⟩ := R.obj k o hk
      exact ⟨b, b1, b2, b3.mono e (upd_ne fun z => hkl (R.inj k l b b1 (z ▸ ha)))⟩
  · by_cases hb : b = a
    · rw [hb, upd_same] at z; cases z
    · rw [upd_ne hb] at z
      exact R.liv k b q z
  · by_cases hb : b = a
    · rw [hb, upd_same] at z; cases z
    · rw [upd_ne hb] at z
      exact R.fzl b q z
  · by_cases hb : b = a
    · rw [hb, upd_same] at z; cases z
    · rw [upd_ne hb] at z
      exact R.owl b q z
/-- a changeable list is changed -/
theorem set_mut {l : Nat} {a : Addr} {ds ds' : List D} {vs' : List V} (R : HRel K g h H) (hl : h l = some (.lst ds)) (ha : g.io l = some a) (r : RelDs K g H ds' vs') :
    Ext g H g (upd H a (.lst vs')) ∧ HRel K g (put h l (.lst ds')) (upd H a (.lst vs')) :=
  set_mutO R hl ha (.inl ⟨_, rfl⟩) fun e => ⟨vs', upd_same, r.mono e⟩
/-- a changeable list is no more changed -/
theorem frz_mut {l : Nat} {a : Addr} {ds : List D} (R : HRel K g h H) (hl : h l = some (.lst ds)) (ha : g.io l = some a) :
    ∃ g', Ext g H g' H ∧ HRel K g' (del h l) H ∧ RelD K g' H (.lst ds) (.ref a) := by
  obtain ⟨a', h1, h2, vs, h3, h4⟩ := R.obj l _ hl
  rw [ha] at h1
  cases h1
  have e : Ext g H ⟨g.io, fun b => g.fz b ∨ b = a, g.ow⟩ H := ⟨⟨fun _ _ z => z, fun _ z => .inl z, fun _ _ => rfl, fun _ _ z => z, fun _ _ _ z => z⟩, fun _ z => z, fun _ _ => rfl⟩
  refine ⟨⟨g.io, fun b => g.fz b ∨ b = a, g.ow⟩, e, ⟨fun k o hk => ?_, R.inj, R.liv, fun b q => ?_, R.owl, fun b q z => ?_, R.owio, R.fin, R.tab, fun b ps z => ⟨fun q => q.elim (R.tbl b ps z).fz fun q => (by rw [q, h3] at z; cases z), (R.tbl b ps z).ow, (R.tbl b ps z).io⟩, R.owx⟩, .lst (.inl ⟨h3, .inr rfl⟩) (h4.mono e)⟩
  · have hkl : k ≠ l := fun z => by rw [z, del_same] at hk; cases hk
    rw [del_ne hkl] at hk
    obtain ⟨b, b1, b2, b3⟩ := R.obj k o hk
    exact ⟨b, b1, fun z => z.elim b2 fun z => hkl (R.inj k l b b1 (z ▸ ha)), b3.mono e rfl⟩
  · rcases q with q | q
    · exact R.fzl b q
    · rw [q, h3]; exact fun z => by cases z
  · rcases z with z | z
    · exact R.owf b q z
    · exact R.owio l a ha (z ▸ q)
/-- a loose object is taken in hand: while the code runs, it stays -/
theorem own_in {p : Addr} {o : HO} (lo : Loose g p) (hp : H p = some o) (R : HRel K g h H) (ho : ∀ ps, o ≠ .tbl ps := by intro ps z; cases z) (hx : ∀ φ, o ≠ .ext φ := by intro ps z; cases z) : Ext g H ⟨g.io, g.fz, fun a => g.ow a ∨ a = p⟩ H ∧ HRel K ⟨g.io, g.fz, fun a => g.ow a ∨ a = p⟩ h H := by
  have e : Ext g H ⟨g.io, g.fz, fun a => g.ow a ∨ a = p⟩ H := ⟨⟨fun _ _ z => z, fun _ z => z, fun _ _ => rfl, fun _ _ z => z, fun _ _ _ z => z⟩, fun _ z => .inl z, fun _ _ => rfl⟩
  refine ⟨e, ⟨fun l o' hl => ?_, R.inj, R.liv, R.fzl, fun a q => ?_, fun a q => ?_, fun l a q z => ?_, R.fin, R.tab, fun a ps z => ⟨(R.tbl a ps z).fz, fun q => q.elim (R.tbl a ps z).ow fun q => (by rw [q, hp] at z; exact ho ps (Option.some.inj z)), (R.tbl a ps z).io⟩, fun a φ q z => q.elim (fun q => R.owx a φ q z) fun q => (by rw [q, hp] at z; exact hx φ (Option.some.inj z))⟩⟩
  · obtain ⟨a, h1, h2, h3⟩ := R.obj l o' hl
    exact ⟨a, h1, h2, h3.mono e rfl⟩
  · rcases q with q | q
    · exact R.owl a q
    · rw [q, hp]; exact fun z => by cases z
  · rcases q with q | q
    · exact R.owf a q
    · rw [q]; exact lo.fz
  · rcases z with z | z
    · exact R.owio l a q z
    · exact lo.io l (z ▸ q)
/-- .. and put down again -/
theorem own_out {p : Addr} {g1 g2 : Gh} {H1 H2 : Hp} {h2 : DH} (lo : Loose g1 p) (e : Ext ⟨g1.io, g1.fz, fun a => g1.ow a ∨ a = p⟩ H1 g2 H2) (R : HRel K g2 h2 H2) :
    H2 p = H1 p ∧ Ext g1 H1 ⟨g2.io, g2.fz, fun a => g2.ow a ∧ a ≠ p⟩ H2 ∧ HRel K ⟨g2.io, g2.fz, fun a => g2.ow a ∧ a ≠ p⟩ h2 H2 ∧ Loose ⟨g2.io, g2.fz, fun a => g2.ow a ∧ a ≠ p⟩ p ∧ Ext0 g2 H2 ⟨g2.io, g2.fz, fun a => g2.ow a ∧ a ≠ p⟩ H2 := by
  have op : g2.ow p := e.ow p (.inr rfl)
  have e0 : Ext0 g2 H2 ⟨g2.io, g2.fz, fun a => g2.ow a ∧ a ≠ p⟩ H2 := ⟨fun _ _ z => z, fun _ z => z, fun _ _ => rfl, fun _ _ z => z, fun _ _ _ z => z⟩
  refine ⟨e.owH p (.inr rfl), ⟨⟨e.io, e.fz, e.fzH, e.tup, e.frz⟩, fun a z => ⟨e.ow a (.inl z), fun q => lo.ow (q ▸ z)⟩, fun a z => e.owH a (.inl z)⟩, ⟨fun l o' hl => ?_, R.inj, R.liv, R.fzl, fun a q => R.owl a q.1, fun a q => R.owf a q.1, fun l a q z => R.owio l a q z.1, R.fin, R.tab, fun a ps z => ⟨(R.tbl a ps z).fz, fun q => (R.tbl a ps z).ow q.1, (R.tbl a ps z).io⟩, fun a φ q => R.owx a φ q.1⟩, ⟨R.owf p op, fun z => z.2 rfl, fun l z => R.owio l p z op⟩, e0⟩
  obtain ⟨a, h1, h2, h3⟩ := R.obj l o' hl
  exact ⟨a, h1, h2, h3.mono0 e0 rfl⟩
theorem lstOf_sq {d : D} {v : V} {ds : List D} (R : HRel K g h H) (r : RelD K g H d v) (e : lstOf h d = some ds) : ∃ a vs, v = .ref a ∧ Rd H a (.lst vs) ∧ RelDs K g H ds vs := by
  cases r with
  | lst h1 h2 =>
    have e' := Option.some.inj e
    subst e'
    exact ⟨_, _, rfl, h1.rd, h2⟩
  | @ref l a hio =>
    cases hl : h l with
    | none => simp [lstOf, hl] at e
    | some o =>
      cases o with
      | lst ds' =>
        simp [lstOf, hl] at e
        subst e
        obtain ⟨a', h1, h2, vs, h3, h4⟩ := R.obj l _ hl
        rw [hio] at h1
        cases h1
        exact ⟨a, vs, rfl, .inl h3, h4⟩
      | ins _ _ _ => simp [lstOf, hl] at e
      | dic _ => simp [lstOf, hl] at e
  | non => cases e
  | bl b => cases e
  | int i => cases e
  | str s => cases e
  | tup _ _ => cases e
  | exc _ _ => cases e
  | obj _ _ _ _ => cases e
  | clo _ _ _ => cases e
theorem seqOf_sq {d : D} {v : V} {ds : List D} (R : HRel K g h H) (r : RelD K g H d v) (e : seqOf h d = some ds) : ∃ a vs, v = .ref a ∧ (SqL K H a vs ∨ SqT K H a vs) ∧ RelDs K g H ds vs := by
  cases r with
  | tup h1 h2 =>
    have e' := Option.some.inj e
    subst e'
    exact ⟨_, _, rfl, .inr h1, h2⟩
  | non => cases e
  | bl b => cases e
  | int i => cases e
  | str s => cases e
  | lst h1 h2 =>
    obtain ⟨a, vs, h1, h2, h3⟩ := lstOf_sq R (RelD.lst h1 h2) e
    exact ⟨a, vs, h1, .inl (.inl h2), h3⟩
  | ref h1 =>
    obtain ⟨a, vs, h1, h2, h3⟩ := lstOf_sq R (RelD.ref h1) e
    exact ⟨a, vs, h1, .inl (.inl h2), h3⟩
  | exc _ _ => cases e
  | obj _ _ _ _ => cases e
  | clo _ _ _ => cases e
end
mutual
theorem toP0_dp {K : PySem.W.Frag} {g : Gh} {H : Hp} : ∀ {d : D} {v : V} {x : PyData}, RelD K g H d v → toP0 d = some x → Dp K H v x
  | _, _, _, .non, e => by cases e; exact .non
  | _, _, _, .bl b, e => by cases e; exact .bl b
  | _, _, _, .int i, e => by cases e; exact .int i
  | _, _, _, .str s, e => by cases e; exact .str s
  | .tup ds, _, _, .tup h r, e => by
    rw [show toP0 (.tup ds) = (toP0s ds).map .tuple from rfl] at e
    obtain ⟨xs, h1, h2⟩ := Option.map_eq_some_iff.mp e
    subst h2
    exact .tup h (toP0s_dp r h1)
  | .lst ds, _, _, .lst h r, e => by
    rw [show toP0 (.lst ds) = (toP0s ds).map .list from rfl] at e
    obtain ⟨xs, h1, h2⟩ := Option.map_eq_some_iff.mp e
    subst h2
    exact .lst h.sq (toP0s_dp r h1)
  | _, _, _, .ref _, e => by cases e
  | _, _, _, .exc _ _, e => by cases e
  | _, _, _, .obj _ _ _ _, e => by cases e
  | _, _, _, .clo _ _ _, e => by cases e
theorem toP0s_dp {K : PySem.W.Frag} {g : Gh} {H : Hp} : ∀ {ds : List D} {vs : List V} {xs : List PyData}, RelDs K g H ds vs → toP0s ds = some xs → DpAll K H vs xs
  | _, _, _, .nil, e => by cases e; exact .nil
  | d :: ds, _, xs, .cons h r, e => by
    rw [show toP0s (d :: ds) = (match toP0 d, toP0s ds with | some x, some xs => some (x :: xs) | _, _ => none) from rfl] at e
    split at e
    · rename_i x xs' h1 h2
      cases e
      exact .cons (toP0_dp h h1) (toP0s_dp r h2)
    · cases e
end
theorem toP_dp {K : PySem.W.Frag} {g : Gh} {h : DH} {H : Hp} {d : D} {v : V} {x : PyData} (R : HRel K g h H) (r : RelD K g H d v) (e : toP h d = some x) : Dp K H v x := by
  cases r with
  | @ref l a hio =>
    cases hl : h l with
    | none => simp [toP, hl] at e
    | some o =>
      cases o with
      | lst ds =>
        simp only [toP, hl] at e
        obtain ⟨a', h1, h2, vs, h3, h4⟩ := R.obj _ _ hl
        rw [hio] at h1
        cases h1
        obtain ⟨xs, h1, h2⟩ := Option.map_eq_some_iff.mp e
        subst h2
        exact .lst (SqL.of h3) (toP0s_dp h4 h1)
      | ins _ _ _ => simp [toP, hl] at e
      | dic _ => simp [toP, hl] at e
  | exc _ _ => cases e
  | obj _ _ _ _ => cases e
  | clo _ _ _ => cases e
  | non => exact toP0_dp (g := g) .non e
  | bl b => exact toP0_dp (g := g) (.bl b) e
  | int i => exact toP0_dp (g := g) (.int i) e
  | str s => exact toP0_dp (g := g) (.str s) e
  | tup h1 h2 => exact toP0_dp (.tup h1 h2) e
  | lst h1 h2 => exact toP0_dp (.lst h1 h2) e
end Fb

set_option linter.all false
set_option maxRecDepth 100000
set_option maxHeartbeats 1000000
set_option autoImplicit false
namespace Fb
open PySem PySem.Spec PyProof.Rows L2
/-! ### own exception classes: Base.__init__(self, text); self.f = f -/
section
variable {X : Cx} {e : Expr} {es : List Expr} {ta : TA} {p1 p2 pos : Pos}
theorem pe_oinit {x : Str} {C0 : Addr} {pl : Sem Bool} (hg : Gl X x) (hm : X.mg x = some (.ref C0)) (hr : ClX.CRead X.K C0 (.type "type")) (hf : PySem.W.findCls X.K (.ref C0) (.type "type") "__init__" = some (.val (.builtin "ValueError.__init__"))) (ha : PA X (e :: es) ta) (hdb : (x == ("__debug__" : Str)) = false)
    (hc : eval (.Call (.Attribute (.Name x p1) "__init__" p2) (e :: es) [] pos) X.env = (do
      let ov ← eval (.Name x p1) X.env
      standAt p2.atName
      let (f, first) ← holding [ov] (getMethod ov "__init__" pl)
      callWith pos f first (backTo pos (starEach (e :: es) X.env)) (backToKw pos (keywordEach [] X.env))))
    (he : starEach (e :: es) X.env = (false, eval e X.env) :: starEach es X.env) (hpl : (backTo pos (starEach es X.env)).any (·.1) = false) :
    PE X (.Call (.Attribute (.Name x p1) "__init__" p2) (e :: es) [] pos) (tVeI X.K ta) := by
  refine ⟨fun pins s z H Q I h => ?_⟩
  refine PySem.W.methodCall_KW (ld_glob I hg hm ?_ hdb) hc
  refine PySem.W.method_cls I.kIn hr.ga (PySem.W.cls_value I.kIn hr.rd hf (by decide +kernel) ?_)
  show wpAny _ _ (callWith pos (Value.builtin "ValueError.__init__") [] (backTo pos (starEach (e :: es) X.env)) []) _ _ _
  refine PyProof.Rows.callWith_method1 (thn (ha.run pos pins _ z H _ (I.tok _) h) fun us s1 q => ?_) he hpl
  obtain ⟨vs, H1, I1, r1, a, C, ws, ev, hl, T, ea, q⟩ := q
  subst ev
  cases r1 with
  | @cons _ u0 _ ur ra rw' =>
    have eu : u0 = Value.ref a := ra
    subst eu
    refine oinit_ok T I1 ea ?_ fun s' J => ⟨.non, H1, J, rfl, q⟩
    rw [← Paired.length rw', sizeLine_eq]
    omega
end
/-- what such an __init__ does: fl the fields, the last one first -/
def spInit (K : PySem.W.Frag) (C : Addr) (fl : List Str) : Sp := fun vs H Q _ => ∃ a ws, vs = .ref a :: ws ∧ ws.length = fl.length ∧ H a = some (exo a C none) ∧ ∀ d H2, H d = none → d ≠ a → H2 a = some (exo a C (some d)) → H2 d = some (exd d (fl.zip ws.reverse)) → (∀ b, b ≠ a → b ≠ d → H2 b = H b) → Q .non H2
structure InitC (K : PySem.W.Frag) (C : Addr) (fl : List Str) (fI : Addr) (fd : FuncData) (ps : List Str) : Prop where
  oc : OexC K C
  at_ : PySem.W.findIn K (.ref C) "__init__" = some (some (.ref fI))
  ty : PySem.W.typeIn K (.ref fI) = some (.type "function")
  no : ∀ f ∈ fl, PySem.W.findIn K (.ref C) f = some none
  len : fl.length ≤ 100
  bd : Binds K fd ps []
section
variable {P : Program} {w : World} {K : PySem.W.Frag} {mg : Str → Option Value} {base : Heap} {C C0 fI : Addr} {fd : FuncData} {x b self f1 t : Str} {p : Str} {j : Nat} {qual : Str} {params : Arguments} {scope : Scope} {q1 q2 q3 q4 q5 q6 q7 q8 q9 q10 q11 q12 q13 q14 : Pos}
/-- one field -/
theorem init1 (hc : OexC K C) (hno : PySem.W.findIn K (.ref C) f1 = some none) (hm : mg b = some (.ref C0)) (hr : ClX.CRead K C0 (.type "type")) (hf : PySem.W.findCls K (.ref C0) (.type "type") "__init__" = some (.val (.builtin "ValueError.__init__"))) (hdb : (b == ("__debug__" : Str)) = false)
    (F : FunD K x qual params [.Expr (.Call (.Attribute (.Name b q1) "__init__" q2) [.Name self q3, .Constant (.str t) j q4] [] q5) q6, .Assign [.Attribute (.Name self q7) f1 q8] (.Name p q9) q10] scope [] [] fI fd)
    (S : FnScope [self, p] [self, p] scope) (hgb : scope.names.lookup b = some .globalImplicit) (hs : Vis scope self) (hp : Vis scope p)
    (hd : (self == ("__debug__" : Str)) = false ∧ (self == ("__classdict__" : Str)) = false ∧ (p == ("__debug__" : Str)) = false ∧ (p == ("__classdict__" : Str)) = false) (hev : ∀ env : Env, ∃ pl : Sem Bool, eval (.Call (.Attribute (.Name b q1) "__init__" q2) [.Name self q3, .Constant (.str t) j q4] [] q5) env = (do
      let ov ← eval (.Name b q1) env
      standAt q2.atName
      let (f, first) ← holding [ov] (getMethod ov "__init__" pl)
      callWith q5 f first (backTo q5 (starEach [.Name self q3, .Constant (.str t) j q4] env)) (backToKw q5 (keywordEach [] env)))) :
    FnOk P w K mg base C8.CX0 1 fI fd [self, p] (spInit K C [f1]) := by
  refine F.ok S (fun vs H Q E h => ?_) fun cdv Ar outer s H vs Q E hr2 h => ?_
  · obtain ⟨a, ws, rfl, hl, _⟩ := h
    match ws, hl with
    | [_], _ => rfl
  · obtain ⟨pl, hcq⟩ := hev (cxOf C8.CX0 P w K mg base [self, p] qual scope fI cdv Ar outer s H E).nox.env
    refine ⟨_, PSs.nox (pss_cons (ps_expr (pe_oinit (pl := pl) hgb hm hr hf (pa_cons (pe_var (i := 0) rfl hs hd.1 hd.2.1) (pa_cons pe_str pa_nil)) hdb hcq rfl rfl) rfl) (pss_one (ps_ost (pe_var (i := 0) rfl hs hd.1 hd.2.1) (pe_var (i := 1) rfl hp hd.2.2.1 hd.2.2.2) ?hw))), ?_⟩
    case hw => rfl
    obtain ⟨a, ws, rfl, hlw, ha, q⟩ := h
    match ws, hlw with
    | [v], _ =>
      refine ⟨.ref a, rfl, a, C, [.str t], rfl, by simp, hc, ha, ⟨v, rfl, .ref a, rfl, a, C, rfl, hc, hno, .inl ⟨ha, fun dx hn hne => ?_⟩⟩⟩
      refine q dx _ hn hne upd_same ?_ fun c h1 h2 => ?_
      · rw [upd_ne hne, upd_same]
        rfl
      · rw [upd_ne h1, upd_ne h2]
/-- two fields -/
theorem init2 {f2 r : Str} (hc : OexC K C) (hno : PySem.W.findIn K (.ref C) f1 = some none) (hno2 : PySem.W.findIn K (.ref C) f2 = some none) (hm : mg b = some (.ref C0)) (hr : ClX.CRead K C0 (.type "type")) (hf : PySem.W.findCls K (.ref C0) (.type "type") "__init__" = some (.val (.builtin "ValueError.__init__"))) (hdb : (b == ("__debug__" : Str)) = false)
    (F : FunD K x qual params [.Expr (.Call (.Attribute (.Name b q1) "__init__" q2) [.Name self q3, .Constant (.str t) j q4] [] q5) q6, .Assign [.Attribute (.Name self q7) f1 q8] (.Name p q9) q10, .Assign [.Attribute (.Name self q11) f2 q12] (.Name r q13) q14] scope [] [] fI fd)
    (S : FnScope [self, p, r] [self, p, r] scope) (hgb : scope.names.lookup b = some .globalImplicit) (hs : Vis scope self) (hp : Vis scope p) (hp2 : Vis scope r)
    (hd : (self == ("__debug__" : Str)) = false ∧ (self == ("__classdict__" : Str)) = false ∧ (p == ("__debug__" : Str)) = false ∧ (p == ("__classdict__" : Str)) = false) (hd2 : (r == ("__debug__" : Str)) = false ∧ (r == ("__classdict__" : Str)) = false)
    (hev : ∀ env : Env, ∃ pl : Sem Bool, eval (.Call (.Attribute (.Name b q1) "__init__" q2) [.Name self q3, .Constant (.str t) j q4] [] q5) env = (do
      let ov ← eval (.Name b q1) env
      standAt q2.atName
      let (f, first) ← holding [ov] (getMethod ov "__init__" pl)
      callWith q5 f first (backTo q5 (starEach [.Name self q3, .Constant (.str t) j q4] env)) (backToKw q5 (keywordEach [] env)))) :
    FnOk P w K mg base C8.CX0 1 fI fd [self, p, r] (spInit K C [f2, f1]) := by
  refine F.ok S (fun vs H Q E h => ?_) fun cdv Ar outer s H vs Q E hr2 h => ?_
  · obtain ⟨a, ws, rfl, hl, _⟩ := h
    match ws, hl with
    | [_, _], _ => rfl
  · obtain ⟨pl, hcq⟩ := hev (cxOf C8.CX0 P w K mg base [self, p, r] qual scope fI cdv Ar outer s H E).nox.env
    refine ⟨_, PSs.nox (pss_cons (ps_expr (pe_oinit (pl := pl) hgb hm hr hf (pa_cons (pe_var (i := 0) rfl hs hd.1 hd.2.1) (pa_cons pe_str pa_nil)) hdb hcq rfl rfl) rfl)
      (pss_cons (ps_ost (pe_var (i := 0) rfl hs hd.1 hd.2.1) (pe_var (i := 1) rfl hp hd.2.2.1 hd.2.2.2) ?hw) (pss_one (ps_ost (pe_var (i := 0) rfl hs hd.1 hd.2.1) (pe_var (i := 2) rfl hp2 hd2.1 hd2.2) ?hw2)))), ?_⟩
    case hw => rfl
    case hw2 => rfl
    obtain ⟨a, ws, rfl, hlw, ha, q⟩ := h
    match ws, hlw with
    | [v, v2], _ =>
      refine ⟨.ref a, rfl, a, C, [.str t], rfl, by simp, hc, ha, ⟨v, rfl, .ref a, rfl, a, C, rfl, hc, hno, .inl ⟨ha, fun dx hn hne => ?_⟩⟩⟩
      refine ⟨v2, rfl, .ref a, rfl, a, C, rfl, hc, hno2, .inr ⟨dx, [(f1, v)], upd_same, by rw [upd_ne hne, upd_same], by simp, ?_⟩⟩
      refine q dx _ hn hne ?_ upd_same fun c h1 h2 => ?_
      · rw [upd_ne (Ne.symm hne), upd_same]
      · rw [upd_ne h2, upd_ne h1, upd_ne h2]
end
/-! ### a class's instances, raised -/
inductive MkX (P : Program) (w : World) (K : PySem.W.Frag) (mg : Str → Option Value) (base : Heap) (C : Addr) (fl : List Str) : Prop
  | init {fI : Addr} {fd : FuncData} {ps : List Str} (h : InitC K C fl fI fd ps) (F : FnOk P w K mg base C8.CX0 1 fI fd ps (spInit K C fl)) (hn : fl ≠ [])
  | bare {bmB : List Value} {B newId initId : String} (F : ExcBaseFacts B newId initId bmB) (q : PySem.W.excIn K C bmB newId = true) (hn : fl = [])
end Fb

set_option linter.all false
set_option maxRecDepth 100000
set_option maxHeartbeats 2000000
namespace Fb
open PySem PySem.Spec PyProof.Rows L2 LamX
/-! ### a lambda handed to a def that calls it; what it raises is wished for at the taker's slots -/
theorem dbg_of {x : Str} (h : dbgB x = true) : (x == ("__debug__" : Str)) = false ∧ (x == ("__classdict__" : Str)) = false := by
  unfold dbgB at h
  obtain ⟨h1, h2⟩ := Bool.and_eq_true_iff.mp h
  exact ⟨by simpa using h1, by simpa using h2⟩
abbrev F0 : XK := fun _ _ _ => False
/-- the taker's frame, entered from the frames st at s -/
abbrev tkCx (P : Program) (w : World) (K : PySem.W.Frag) (mg : Str → Option Value) (base : Heap) (A : Around) (st : List Env) (Ng : List Str) (x : Str) (sg : Scope) (g : Addr) (cd : Value) (s : Shared) (H : Hp) : Cx := cxOf (L2.CX P w) P w K mg base Ng x sg g cd A st s H F0
section
variable {X : Cx} {pins : List (Addr × Obj)} {σ : L2.St} {H : Hp} {s : Shared}
theorem pe_actS {Ng : List Str} {x : Str} {sg : Scope} {g f c' : Addr} {cd pm ctv : Value} {params : Arguments} {body : Expr} {scope : Scope} {k i : Nat} {a : Str} {pn : List (Addr × Obj)} {xe : Value → Shared → Prop} {W : WX} {t : XK → TE} {p1 p2 : Pos}
    (I : Inv X pins σ H s) (L : LamS X.env.scope scope)
    (hf : s.heap.get? f = some (PySem.W.kla_obj "<lambda>" (X.env.qual ++ "<lambda>") params body scope (cloFrom X.env.cells scope.names []) pm c' ctv)) (hn : H f = none) (hs : f ∉ frs X.stack)
    (hb : bindArgs (PySem.W.kla_fn "<lambda>" (X.env.qual ++ "<lambda>") params body scope (cloFrom X.env.cells scope.names []) pm (.ref c') ctv) ⟨[], []⟩ = pure [])
    (tk : Takes ((tkCx X.prog X.w X.K X.mg X.base X.A X.stack Ng x sg g cd s H).tr pn xe) W) (hr : Room (k + 1) (X.A.deeper (envOfC x sg s.heap.objs.size g cd)))
    (hB : ∀ (A : Around) (outer : List Env) (s : Shared) (H : Hp) (E : XK), Room k (A.deeper (lamEnv X scope s.heap.objs.size f c')) → PE (lamCx X A outer s H E scope f c') body (t E))
    (hN : Ng[i]? = some a) (hv : Vis sg a) (hd : dbgB a = true) :
    PE ((tkCx X.prog X.w X.K X.mg X.base X.A X.stack Ng x sg g cd s H).tr pn xe) (.Call (.Name a p1) [] [] p2)
      (fun z HZ Q => z[i]? = some (some (.ref f)) ∧ HZ c' = some (CodeO c' (X.env.qual ++ "<lambda>")) ∧ t (fun cls d H' => W cls d z H') σ HZ Q) := by
  refine ⟨fun pinz sz z HZ Q J h => ?_⟩
  obtain ⟨h1, h2, h3⟩ := h
  refine wpAny_Call_Name_kw (thn ((pe_var (pos := p1) (i := i) hN hv (dbg_of hd).1 (dbg_of hd).2).run pinz sz z HZ (fun v H1 => v = .ref f ∧ H1 = HZ) J ⟨.ref f, h1, rfl, rfl⟩) fun u s1 q => ?_)
  obtain ⟨v, H1, I1, r1, e1, e2⟩ := q
  subst e1
  subst e2
  have eu : u = Value.ref f := r1
  subst eu
  have of1 := I1.base.keep f _ hf hn hs (fun z => nomatch (show f ∈ ([] : List Addr) from z))
  refine PySem.W.callWith_F0 ⟨_, _, _, _, of1⟩ ?_
  have un : Un (frs X.stack) [] H H1 s.heap s1.heap := I1.base
  obtain ⟨⟨oc, vs, tt, hoc, hdc, hvc⟩, _, _⟩ := I1.hok c' _ h2
  have rc : codeAny (model X.prog X.w) (X.A.deeper (envOfC x sg s.heap.objs.size g cd)) (.call (.ref f) ⟨[], []⟩) (CR (L2.CX X.prog X.w) (envOfC x sg s.heap.objs.size g cd :: X.stack) X.prog X.w H1 s1 Q (fun cls d H' => W cls d z H')) s1 := by
    refine PySem.W.kla_callFunE hr.depth of1 rfl L.co L.gen rfl ⟨c', oc, vs, tt, rfl, hoc, hdc, hvc⟩ ?_
    rw [hb]
    refine wpAny_pure (wpAny_newFunctionEnv (fun y hy => (L.own y hy).2) (fun y hy => absurd hy (by simp)) (fun h₁ hns hsb => ⟨I1.nolimit.fresh _ hsb, ?_⟩) L.kind)
    show codeAny _ _ (.expr body (lamEnv X scope s1.heap.objs.size f c')) _ _
    have kp : ∀ b o, s1.heap.get? b = some o → h₁.get? b = some o := fun b o e => hsb.extBut b o (Nat.ne_of_lt (Heap.lt_size e)) (Heap.get?_push_of_some _ e)
    have J1 := lam_start2 (E := fun cls d H' => W cls d z H') (f := f) (c' := c') (tk := s1.toks + ([] : List (Str × Value)).length) I L I1.env0 hr.hd un hns kp
    exact PySem.W.kla_codeExpr (wpAny_mono ((hB _ _ s1 H1 _ (hr.deeper _)).run [] _ _ H1 Q J1 h3) (fun v s' hq => by
      obtain ⟨w', H', J', rv, q⟩ := hq
      exact ⟨w', H', J'.os, J'.bare, J'.base, J'.hok, rv, q⟩) fun e s' hq => hq)
  refine wpAny_call (codeAny_mono rc fun r s' hq => ?_)
  cases r with
  | error e => exact tk e s' (XE.of_call I1 (fun cls d H' h => h) hq)
  | ok fl => cases fl <;> first | exact I1.after hq | exact False.elim hq
end
/-- the def that calls what it got -/
def GivesS (P : Program) (w : World) (K : PySem.W.Frag) (mg : Str → Option Value) (base : Heap) (A : Around) (st : List Env) (Ng : List Str) (x : Str) (sg : Scope) (g : Addr) (cd : Value) (bg : List Stmt) (a : Str) (q : Str) (TT : L2.St → (XK → Hp → VK → Prop) → Hp → VK → Prop) : Prop :=
  ∀ (f c' : Addr) (s : Shared) (H : Hp) (Q : VK) (sv : L2.St) (tl : XK → Hp → VK → Prop),
    (∀ (W : WX) (pn : List (Addr × Obj)) (xe : Value → Shared → Prop) (p1 p2 : Pos), Takes ((tkCx P w K mg base A st Ng x sg g cd s H).tr pn xe) W →
      PE ((tkCx P w K mg base A st Ng x sg g cd s H).tr pn xe) (.Call (.Name a p1) [] [] p2) (fun z HZ Q => z[0]? = some (some (.ref f)) ∧ HZ c' = some (CodeO c' q) ∧ tl (fun cls d H' => W cls d z H') HZ Q)) →
    H c' = some (CodeO c' q) → TT sv tl H Q → ∃ t, PSs (tkCx P w K mg base A st Ng x sg g cd s H) bg t ∧ t { nx := fun _ H' => Q .non H', rt := Q } (L2.start Ng [.ref f]) H
def tLamS (T : List (Addr × Str)) (TT : L2.St → (XK → Hp → VK → Prop) → Hp → VK → Prop) (t : XK → TE) : TE := fun σ H Q => Tabs T H ∧ ∀ H1, ExtN H H1 → Tabs T H1 → TT σ (fun E H' Q' => t E σ H' Q') H1 Q
section
variable {X : Cx}
theorem pe_lamS {T : List (Addr × Str)} {TT : L2.St → (XK → Hp → VK → Prop) → Hp → VK → Prop} {x a : Str} {g c P : Addr} {k : Nat} {pg : Arguments} {bg : List Stmt} {sg : Scope} {dV kV doc pm cd ct oc : Value} {an od : Option Addr} {osl : Array (Option Value)} {Ng : List Str}
    {params : Arguments} {body : Expr} {scope : Scope} {t : XK → TE} {p lp pos : Pos} (hg : Gl X x) (hm : X.mg x = some (.ref g)) (hk : PySem.W.keepIn X.K (.ref g) = true)
    (lk : X.K.lookup g = some ⟨oc, od, .func (PySem.W.fnOf x x pg bg sg dV kV doc pm an cd ct), osl⟩) (hcg : PySem.W.codeIn X.K cd x = true) (hb : L2.Binds X.K (PySem.W.fnOf x x pg bg sg dV kV doc pm an cd ct) [a] []) (Sg : FnScope Ng [a] sg) (hNg : Ng[0]? = some a) (hva : Vis sg a) (hda : dbgB a = true)
    (hr : Room (k + 2) X.A) (hG : GivesS X.prog X.w X.K X.mg X.base X.A X.stack Ng x sg g cd bg a (X.env.qual ++ "<lambda>") TT)
    (TB : TabB X.base X.mg c P) (hcode : X.env.code = .ref c) (hmT : (P, X.env.qual ++ "<lambda>") ∈ T) (hu : ∀ p ∈ T, p.1 = P → p.2 = X.env.qual ++ "<lambda>") (L : LamS X.env.scope scope) (hdef : defaultsOf params X.env = ([], []))
    (hbind : ∀ (q : Str) (cl : List (Str × Addr)) (pm cv ctv : Value), bindArgs (PySem.W.kla_fn "<lambda>" q params body scope cl pm cv ctv) ⟨[], []⟩ = pure [])
    (hbody : ∀ (A : Around) (outer : List Env) (s : Shared) (H : Hp) (f c' : Addr) (E : XK), Room k (A.deeper (lamEnv X scope s.heap.objs.size f c')) → PE (lamCx X A outer s H E scope f c') body (t E))
    (hdb : dbgB x = true) :
    PE X (.Call (.Name x p) [.Lambda params body scope lp] [] pos) (tLamS T TT t) := by
  refine ⟨fun pins s σ H Q I h => ?_⟩
  obtain ⟨hT, h⟩ := h
  refine wpAny_Call_Name_kw (ld_glob I hg hm ?_ (dbg_of hdb).1)
  refine PySem.W.callWith_K (h₀ := X.base) I.ok.mod.kin hk ?_ (by rfl) (by rfl)
  show wpAny _ _ (spliced ((false, eval (.Lambda params body scope lp) X.env) :: backTo pos (starEach [] X.env))) _ _ s
  refine Calls.spliced_cons (lam_make2 I TB hcode hmT hu hT hdef (L.has I.ok) fun f c' pm' ctv H1 s' I1 eN T1 hf hfn hfr hco => Calls.spliced_nil ⟨I1.kIn, ?_⟩)
  have rc : codeAny (model X.prog X.w) X.A (.call (.ref g) ⟨[.ref f], []⟩) (CR (L2.CX X.prog X.w) X.stack X.prog X.w H1 s' Q F0) s' := by
    refine run_ofS (N := Ng) (ps := [a]) (us := [.ref f]) (vs := [.ref f]) lk hcg Sg hr I1.env0 (hb s' [.ref f] I1.kIn rfl) (.cons rfl .nil) rfl fun hr' => ?_
    exact hG f c' s' H1 Q σ (fun E H' Q' => t E σ H' Q') (fun W pn xe p1 p2 tk => pe_actS (i := 0) I1 L hf hfn hfr (hbind _ _ _ _ _) tk hr' (fun A outer s H E hr2 => hbody A outer s H f c' E hr2) hNg hva hda) hco (h H1 eN T1)
  refine wpAny_call (codeAny_mono rc fun r s2 hq => ?_)
  cases r with
  | error e =>
    obtain ⟨_, _, _, _, _, _, _, _, _, _, _, _, z⟩ := (show L2.CX X.prog X.w X.stack H1 s' F0 e s2 from hq)
    exact z.elim
  | ok fl => cases fl <;> first | exact I1.after hq | exact False.elim hq
end
end Fb

set_option linter.all false
set_option maxRecDepth 100000
set_option maxHeartbeats 1000000
namespace Fb
open PySem PySem.Spec L2

/-- where the classes stand -/
structure Cl where
  cadr : Nat → Option Addr
  cfld : Nat → List Str
def XRel (A : Cl) (K : PySem.W.Frag) (g : Gh) (H : Hp) (c : Nat) (fs : List D) (cls : Value) (dd : Option Addr) : Prop :=
  ∃ C, A.cadr c = some C ∧ cls = .ref C ∧ ((fs = [] ∧ dd = none) ∨ ∃ d vs, dd = some d ∧ g.fz d ∧ H d = some (.xd ((A.cfld c).zip vs)) ∧ RelDs K g H fs vs ∧ vs.length = (A.cfld c).length)
def KQ (K : PySem.W.Frag) (g : Gh) (H : Hp) (Q : VK) : QD := fun d h1 => ∀ g' v H1, Ext g H g' H1 → HRel K g' h1 H1 → RelD K g' H1 d v → Q v H1
def KX (A : Cl) (K : PySem.W.Frag) (g : Gh) (H : Hp) (W : XK) : XD := fun c fs h1 => ∀ g' cls dd H1, Ext g H g' H1 → HRel K g' h1 H1 → XRel A K g' H1 c fs cls dd → W cls dd H1
theorem KX.up {A : Cl} {K : PySem.W.Frag} {g g1 : Gh} {H H1 : Hp} {W : XK} (e : Ext g H g1 H1) : ∀ c fs h, KX A K g H W c fs h → KX A K g1 H1 W c fs h :=
  fun _ _ _ w g' cls dd H2 e2 R x => w g' cls dd H2 (e.trans e2) R x
theorem KQ.up {K : PySem.W.Frag} {g g1 : Gh} {H H1 : Hp} {Q : VK} (e : Ext g H g1 H1) : ∀ d h, KQ K g H Q d h → KQ K g1 H1 Q d h :=
  fun _ _ w g' v H2 e2 R r => w g' v H2 (e.trans e2) R r
/-- the reading of an expression -/
def tD (G : Prg) (A : Cl) (K : PySem.W.Frag) (W : WX) (e : IE) : TE := fun σ H Q => ∃ g σd h, HRel K g h H ∧ RelS K g H σd σ ∧ wpE G e σd h (KQ K g H Q) (KX A K g H fun c d H' => W c d σ H')
def tDL (G : Prg) (A : Cl) (K : PySem.W.Frag) (W : WX) (e : IL) : TA := fun σ H Q => ∃ g σd h, HRel K g h H ∧ RelS K g H σd σ ∧
  wpL G e σd h (fun ds h1 => ∀ g' vs H1, Ext g H g' H1 → HRel K g' h1 H1 → RelDs K g' H1 ds vs → Q vs H1) (KX A K g H fun c d H' => W c d σ H')
def tDO (G : Prg) (A : Cl) (K : PySem.W.Frag) (W : WX) (e : IO) : TO := fun σ H Q => ∃ g σd h, HRel K g h H ∧ RelS K g H σd σ ∧
  wpO G e σd h (fun o h1 => ∀ g' H1, Ext g H g' H1 → HRel K g' h1 H1 → Q o H1) (KX A K g H fun c d H' => W c d σ H')
def tDT (G : Prg) (A : Cl) (K : PySem.W.Frag) (W : WX) (e : IE) : TT := fun σ H Q => tD G A K W e σ H fun v H1 => ∃ c, v = .bl c ∧ Q c H1
/-- a def's promise out of its spec -/
def spD (G : Prg) (A : Cl) (K : PySem.W.Frag) (k : Nat) : Sp := fun vs H Q E => ∃ g ds h, HRel K g h H ∧ RelDs K g H ds vs ∧ ds.length = (G.dfl k).length ∧ G.spec k ds h (KQ K g H Q) (KX A K g H E)
/-- a shape of calls of a def -/
def ShOk (K : PySem.W.Frag) (fd : FuncData) (ps : List Str) (dfl : List (Option D)) (sh : Nat × List Nat) : Prop :=
  ∃ gu gV, KBn K fd ps sh.1 (sh.2.filterMap fun k => ps[k]?) gu gV ∧ ∀ (g : Gh) (H : Hp) (ds es args : List D) (vs zs : List V), RelDs K g H ds vs → RelDs K g H es zs → ds.length = sh.1 → es.length = sh.2.length → bindD dfl ds sh.2 es = some args →
    RelDs K g H args (gV vs zs) ∧ args.length = dfl.length
def FnFact (G : Prg) (A : Cl) (P : Program) (w : World) (K : PySem.W.Frag) (mg : Str → Option Value) (base : Heap) (lv k : Nat) (nm : Str) (ps : List Str) (shs : List (Nat × List Nat)) : Prop :=
  ∃ f fd, mg nm = some (.ref f) ∧ PySem.W.keepIn K (.ref f) = true ∧ FnOk P w K mg base (L2.CX P w) (4 * lv + 3) f fd ps (spD G A K k) ∧ ∀ sh ∈ shs, ShOk K fd ps (G.dfl k) sh
def bltNames : List Str := ["isinstance", "len", "int", "any", "all", "list", "tuple", "range", "bool", "str", "dict"]
/-- an own exception class -/
structure ClsFact (K : PySem.W.Frag) (mg : Str → Option Value) (x : Str) (C : Addr) : Prop where
  gl : mg x = some (.ref C)
  kp : PySem.W.keepIn K (.ref C) = true
  rs : PySem.W.subIn K (.ref C) (.type "BaseException") = some true
  ty : PySem.W.typeIn K (.ref C) = some (.type "type")
/-- what a def that calls the lambda it got makes of it -/
def TTk (G : Prg) (A : Cl) (K : PySem.W.Frag) (k : Nat) (sv : L2.St) (tl : XK → Hp → VK → Prop) (H : Hp) (Q : VK) : Prop :=
  ∃ g h sl B, HRel K g h H ∧ RelS K g H sl sv ∧ BMono B ∧ (∀ (g' : Gh) (h' : DH) (H' : Hp) (Qd : QD) (Ed : XD) (E : XK) (Q' : VK), HRel K g' h' H' → RelS K g' H' sl sv → B h' Qd Ed → (∀ d h, Qd d h → KQ K g' H' Q' d h) → (∀ c fs h, Ed c fs h → KX A K g' H' E c fs h) → tl E H' Q') ∧ G.tk k B h (KQ K g H Q)
def TkFact (G : Prg) (A : Cl) (P : Program) (w : World) (K : PySem.W.Frag) (mg : Str → Option Value) (base : Heap) (lv k : Nat) (nm : Str) : Prop :=
  ∃ (g : Addr) (a : Str) (pg : Arguments) (bg : List Stmt) (sg : Scope) (dV kV doc pm cd ct oc : Value) (an od : Option Addr) (osl : Array (Option Value)) (Ng : List Str), mg nm = some (.ref g) ∧ PySem.W.keepIn K (.ref g) = true ∧
    K.lookup g = some ⟨oc, od, .func (PySem.W.fnOf nm nm pg bg sg dV kV doc pm an cd ct), osl⟩ ∧ PySem.W.codeIn K cd nm = true ∧ L2.Binds K (PySem.W.fnOf nm nm pg bg sg dV kV doc pm an cd ct) [a] [] ∧ FnScope Ng [a] sg ∧ Ng[0]? = some a ∧ Vis sg a ∧ dbgB a = true ∧
    ∀ (Ar : Around) (st : List Env) (q : Str), Room (4 * lv + 3) Ar → GivesS P w K mg base Ar st Ng nm sg g cd bg a q (TTk G A K k)
structure Good (G : Prg) (A : Cl) (T : Nm) (n : Nat) (X : Cx) (W : WX) : Prop where
  mono : Mono G
  calm : T.hot = false → X.calm = true
  room : T.hot = false → Room (4 * n) X.A
  roomR : T.hot = false → T.md < 2 → Room (4 * n + 2) X.A
  un : X.A.units + 100 < cLine
  nd : X.N.Nodup
  tk : Takes X W
  con : ∀ k x d, T.cons[k]? = some x → G.con k = some d → ∃ u v, X.mg x = some u ∧ RelV v u ∧ ∀ g H, RelD X.K g H d v
  fns : ∀ k nm ps shs, T.lv k < n → T.fns[k]? = some (nm, ps, shs) → FnFact G A X.prog X.w X.K X.mg X.base (T.lv k) k nm ps shs
  blt : ∀ x ∈ bltNames, X.mg x = none
  po : PassesOwn (model X.prog X.w) X.A X.env X.xe
  cls : ∀ c x, T.cls[c]? = some x → ∃ C, A.cadr c = some C ∧ ClsFact X.K X.mg x C
  sub : ∀ c c' C C', A.cadr c = some C → A.cadr c' = some C' → PySem.W.exmOne X.K (.ref C) (.ref C') = some (G.sub c c')
  cf : ∀ c, A.cfld c = G.cfld c
  exs : T.hot = true → ∀ a d c, G.exc a d c → ∃ oe C, (a, oe) ∈ X.pn ∧ Zc (.ref C) d oe ∧ (∃ vs, oe.data = .fields vs) ∧ A.cadr c = some C
  xf : ∀ c C, A.cadr c = some C → XfC X.K C ∧ ∀ f ∈ G.cfld c, PySem.W.findIn X.K (.ref C) f = some none
  mkx : ∀ c C, A.cadr c = some C → MkX X.prog X.w X.K X.mg X.base C (G.cfld c)
  act : T.hot = false → T.md = 1 → ∀ (a : Str) (ps : List (Addr × Obj)) (xe : Value → Shared → Prop) (W' : WX) (p1 p2 : Pos), X.N[0]? = some a → Takes (X.tr ps xe) W' → PE (X.tr ps xe) (.Call (.Name a p1) [] [] p2) (tD G A X.K W' (.act 0))
  tks : T.hot = false → T.md = 0 → ∀ k nm, T.tks.lookup k = some nm → T.lv k < n → TkFact G A X.prog X.w X.K X.mg X.base (T.lv k) k nm
  tabs : T.hot = false → T.md = 0 → T.lm = true → ∃ c P, LamX.TabB X.base X.mg c P ∧ X.env.code = .ref c ∧ (P, X.env.qual ++ "<lambda>") ∈ tau X.K ∧ ∀ p ∈ tau X.K, p.1 = P → p.2 = X.env.qual ++ "<lambda>"
theorem takesF {X : Cx} : Takes X (fun _ _ _ _ => False) := fun _ _ ⟨_, _, _, _, _, _, _, _, _, _, _, _, _, _, _, _, w⟩ => w.elim
theorem Good.blk {G : Prg} {A : Cl} {T : Nm} {n : Nat} {X : Cx} {W : WX} (o : Good G A T n X W) (hh : T.hot = false) (s : Shared) (H : Hp) (scope : Scope) (ce : Env) (fp : List Addr) : Good G A { T with md := 3 } n (X.blk s H scope ce fp) (fun _ _ _ _ => False) :=
  ⟨o.mono, o.calm, o.room, fun _ z => absurd z (by show ¬ (3 < 2); decide), o.un, o.nd, takesF, o.con, o.fns, o.blt, PassesOwn.never, o.cls, o.sub, o.cf, fun z => absurd (hh.symm.trans z) (by decide), o.xf, o.mkx, fun _ z => absurd z (by show ¬ (3 = 1); decide), fun _ z => absurd z (by show ¬ (3 = 0); decide), fun _ z => absurd z (by show ¬ (3 = 0); decide)⟩
theorem hot_of {T : Nm} (h : (!T.hot) = true) : T.hot = false := by
  cases e : T.hot with
  | false => rfl
  | true => rw [e] at h; cases h
theorem Good.units {G : Prg} {A : Cl} {T : Nm} {n : Nat} {X : Cx} {W : WX} (o : Good G A T n X W) : X.A.units + 64 < cLine := by have := o.un; omega
/-- what the scope of the text says of the names, as they stand -/
structure ScR (sc : Scope) (X : Cx) : Prop where
  vis : ∀ x, visB sc x = true → Vis X.env.scope x
  loc : ∀ x, locB sc x = true → Loc X.env.scope x ∧ (X.fn x = true ∨ X.env.scope.names.lookup x = some .local)
  gl : ∀ x, glB sc x = true → Gl X x
  cf : ∀ x, sc.names.lookup x = some .cell ∨ sc.names.lookup x = some .free → X.env.scope.names.lookup x = some .cell ∨ X.env.scope.names.lookup x = some .free
  ll : ∀ x, sc.names.lookup x = some .local → X.env.scope.names.lookup x = some .local
theorem lookup_map {α β : Type} [BEq α] (f : α → β → β) : ∀ (l : List (α × β)) (x : α), (∀ (n : α), (x == n) = true → ∀ k, f n k = f x k) → (l.map fun p => (p.1, f p.1 p.2)).lookup x = (l.lookup x).map (f x)
  | [], x, _ => rfl
  | (n, k) :: r, x, h => by
    rw [List.map_cons]
    show List.lookup x ((n, f n k) :: r.map fun p => (p.1, f p.1 p.2)) = _
    rw [List.lookup_cons, List.lookup_cons]
    cases e : x == n with
    | true => rw [h n e k]; rfl
    | false => exact lookup_map f r x h
def rlb (env : Env) (n : Str) (k : NameKind) : NameKind := if (k == NameKind.free && env.scope.kind == ScopeKind.function && env.kindOf n == some NameKind.cell) then NameKind.cell else k
theorem relabel_lookup (scope : Scope) (env : Env) (x : Str) : (relabel scope env).names.lookup x = (scope.names.lookup x).map (rlb env x) := by
  have e : (relabel scope env).names = scope.names.map fun p => (p.1, rlb env p.1 p.2) := by
    show (scope.names.map fun (n, k) => if (k == NameKind.free && env.scope.kind == ScopeKind.function && env.kindOf n == some NameKind.cell) then (n, NameKind.cell) else (n, k)) = _
    refine List.map_congr_left fun p _ => ?_
    obtain ⟨n, k⟩ := p
    show _ = (n, rlb env n k)
    unfold rlb
    dsimp only
    split <;> rfl
  rw [e, lookup_map (rlb env)]
  intro n hn k
  have : x = n := by simpa using hn
  rw [this]
theorem ScR.blk {X : Cx} (s : Shared) (H : Hp) (scope : Scope) (C : Addr) (cl : List (Str × Addr)) (fp : List Addr) : ScR scope (X.blk s H scope (compEnvC scope cl C X.env) fp) := by
  have key : ∀ x, (X.blk s H scope (compEnvC scope cl C X.env) fp).env.scope.names.lookup x = (scope.names.lookup x).map (rlb X.env x) := fun x => relabel_lookup scope X.env x
  have fr : ∀ x, scope.names.lookup x = some .free → (X.blk s H scope (compEnvC scope cl C X.env) fp).env.scope.names.lookup x = some .cell ∨ (X.blk s H scope (compEnvC scope cl C X.env) fp).env.scope.names.lookup x = some .free := fun x h => by
    rw [key, h, Option.map_some]
    unfold rlb
    split
    · exact .inl rfl
    · exact .inr rfl
  have ot : ∀ x k, scope.names.lookup x = some k → k ≠ .free → (X.blk s H scope (compEnvC scope cl C X.env) fp).env.scope.names.lookup x = some k := fun x k h hk => by
    rw [key, h, Option.map_some]
    have : (k == NameKind.free) = false := by simpa using hk
    unfold rlb
    rw [this]
    rfl
  refine ⟨fun x h => ?_, fun x h => ?_, fun x h => ?_, fun x h => ?_, fun x h => ot x _ h (by decide)⟩
  · unfold visB at h
    split at h
    · rename_i q; exact .inl (ot x _ q (by decide))
    · rename_i q; exact .inr (.inl (ot x _ q (by decide)))
    · rename_i q; exact .inr (fr x q)
    · cases h
  · unfold locB at h
    split at h
    · rename_i q; exact ⟨.inl (ot x _ q (by decide)), .inr (ot x _ q (by decide))⟩
    · rename_i q
      refine ⟨.inr (ot x _ q (by decide)), .inl ?_⟩
      show (scope.names.lookup x == some .cell) = true
      rw [q]
      rfl
    · cases h
  · unfold glB at h
    split at h
    · rename_i q; exact ot x _ q (by decide)
    · cases h
  · rcases h with h | h
    · exact .inl (ot x _ h (by decide))
    · exact fr x h

section
variable {G : Prg} {A : Cl} {K : PySem.W.Frag} {W : WX} {g : Gh} {σd : Sg} {h : DH} {H : Hp} {σ : L2.St}
theorem stepE {e : IE} {P : QD} {Q : VK} (hm : Mono G) (R : HRel K g h H) (S : RelS K g H σd σ) (w : wpE G e σd h P (KX A K g H fun c d H' => W c d σ H'))
    (f : ∀ d h1 g1 v H1, Ext g H g1 H1 → HRel K g1 h1 H1 → RelD K g1 H1 d v → P d h1 → Q v H1) : tD G A K W e σ H Q :=
  ⟨g, σd, h, R, S, wpE_mono hm e (fun d h1 p g1 v H1 e1 R1 r1 => f d h1 g1 v H1 e1 R1 r1 p) (fun _ _ _ z => z) w⟩
theorem stepL {e : IL} {P : List D → DH → Prop} {Q : List V → Hp → Prop} (hm : Mono G) (R : HRel K g h H) (S : RelS K g H σd σ) (w : wpL G e σd h P (KX A K g H fun c d H' => W c d σ H'))
    (f : ∀ d h1 g1 v H1, Ext g H g1 H1 → HRel K g1 h1 H1 → RelDs K g1 H1 d v → P d h1 → Q v H1) : tDL G A K W e σ H Q :=
  ⟨g, σd, h, R, S, wpL_mono hm e (fun d h1 p g1 v H1 e1 R1 r1 => f d h1 g1 v H1 e1 R1 r1 p) (fun _ _ _ z => z) w⟩
theorem stepO {e : IO} {P : Option Int → DH → Prop} {Q : Option Int → Hp → Prop} (hm : Mono G) (R : HRel K g h H) (S : RelS K g H σd σ) (w : wpO G e σd h P (KX A K g H fun c d H' => W c d σ H'))
    (f : ∀ d h1 g1 H1, Ext g H g1 H1 → HRel K g1 h1 H1 → P d h1 → Q d H1) : tDO G A K W e σ H Q :=
  ⟨g, σd, h, R, S, wpO_mono hm e (fun d h1 p g1 H1 e1 R1 => f d h1 g1 H1 e1 R1 p) (fun _ _ _ z => z) w⟩
theorem upE {e : IE} {P : QD} {W' : XK} {g1 : Gh} {H1 : Hp} (hm : Mono G) (x : Ext g H g1 H1) (w : wpE G e σd h P (KX A K g H W')) : wpE G e σd h P (KX A K g1 H1 W') :=
  wpE_mono hm e (fun _ _ z => z) (KX.up x) w
theorem upL {e : IL} {P : List D → DH → Prop} {W' : XK} {g1 : Gh} {H1 : Hp} (hm : Mono G) (x : Ext g H g1 H1) (w : wpL G e σd h P (KX A K g H W')) : wpL G e σd h P (KX A K g1 H1 W') :=
  wpL_mono hm e (fun _ _ z => z) (KX.up x) w
theorem upO {e : IO} {P : Option Int → DH → Prop} {W' : XK} {g1 : Gh} {H1 : Hp} (hm : Mono G) (x : Ext g H g1 H1) (w : wpO G e σd h P (KX A K g H W')) : wpO G e σd h P (KX A K g1 H1 W') :=
  wpO_mono hm e (fun _ _ z => z) (KX.up x) w
/-- a new list handed on -/
theorem mkL_new {m : Bool} {ds : List D} {vs : List V} {Q : VK} {g0 : Gh} {H0 : Hp} (R : HRel K g h H) (x : Ext g0 H0 g H) (r : RelDs K g H ds vs) (w : mkL m ds h (KQ K g0 H0 Q)) : ∀ p, H p = none → Q (.ref p) (upd H p (.lst vs)) := by
  intro p hp
  unfold mkL at w
  cases m with
  | true =>
    obtain ⟨g', l, hl, e, R', r'⟩ := new_mut hp R r
    exact (show ∀ l, h l = none → _ from w) l hl g' _ _ (x.trans e) R' r'
  | false =>
    obtain ⟨g', e, R', r'⟩ := new_frz hp R r
    exact (show KQ K g0 H0 Q (.lst ds) h from w) g' _ _ (x.trans e) R' r'
end
theorem _root_.L2.PE.imp {X : Cx} {e : Expr} {t t' : TE} (h : PE X e t) (f : ∀ σ H Q, t' σ H Q → t σ H Q) : PE X e t' := ⟨fun pins s σ H Q I w => h.run pins s σ H Q I (f σ H Q w)⟩
theorem _root_.L2.PT.imp {X : Cx} {e : Expr} {t t' : TT} (h : PT X e t) (f : ∀ σ H Q, t' σ H Q → t σ H Q) : PT X e t' := ⟨fun pins s σ H Q I w => h.run pins s σ H Q I (f σ H Q w)⟩
theorem _root_.L2.PW.imp {X : Cx} {e : Expr} {t t' : TT} (h : PW X e t) (f : ∀ σ H Q, t' σ H Q → t σ H Q) : PW X e t' := ⟨fun wh pins s σ H Q I w => h.run wh pins s σ H Q I (f σ H Q w)⟩
theorem _root_.L2.PA.imp {X : Cx} {e : List Expr} {t t' : TA} (h : PA X e t) (f : ∀ σ H Q, t' σ H Q → t σ H Q) : PA X e t' := ⟨fun pos pins s σ H Q I w => h.run pos pins s σ H Q I (f σ H Q w)⟩
theorem _root_.L2.PK.imp {X : Cx} {e : List Keyword} {t t' : TA} (h : PK X e t) (f : ∀ σ H Q, t' σ H Q → t σ H Q) : PK X e t' := ⟨fun pos pins s σ H Q I w => h.run pos pins s σ H Q I (f σ H Q w)⟩
theorem _root_.L2.PO.imp {X : Cx} {e : Option Expr} {t t' : TO} (h : PO X e t) (f : ∀ σ H Q, t' σ H Q → t σ H Q) : PO X e t' := ⟨fun pins s σ H Q I w => h.run pins s σ H Q I (f σ H Q w)⟩
/-! ### what the look says of an expression -/
theorem andB {a b : Bool} (h : (a && b) = true) : a = true ∧ b = true := Bool.and_eq_true_iff.mp h
theorem vis_of {sc : Scope} {x : Str} (h : visB sc x = true) : Vis sc x := by
  unfold visB at h
  split at h
  · exact .inl (by assumption)
  · exact .inr (.inl (by assumption))
  · exact .inr (.inr (by assumption))
  · cases h
theorem loc_of {sc : Scope} {x : Str} (h : locB sc x = true) : Loc sc x := by
  unfold locB at h
  split at h
  · exact .inl (by assumption)
  · exact .inr (by assumption)
  · cases h
theorem gl_of {X : Cx} {x : Str} (h : glB X.env.scope x = true) : Gl X x := by
  unfold glB at h
  split at h
  · rename_i q
    exact q
  · cases h
theorem beq_of {x y : Str} (h : (x == y) = true) : x = y := by simpa using h
/-- a matched expression is no star, no slice, no set -/
def isStar : Expr → Bool
  | .Starred _ _ => true
  | _ => false
def plainX : Expr → Bool
  | .Starred _ _ => false
  | .Slice _ _ _ _ => false
  | .Set _ _ _ => false
  | .SetComp _ _ _ _ => false
  | .DictComp _ _ _ _ _ => false
  | _ => true
theorem mE_plain {T : Nm} {n : Nat} {N : List Str} : ∀ {e : IE} {sc : Scope} {a : Expr}, mE T n N e sc a = true → plainX a = true := by
  intro e sc a h
  cases a <;> first
    | rfl
    | (exfalso; cases e <;> exact Bool.noConfusion h)
theorem star_of {a : Expr} {as : List Expr} {env : Env} (h : plainX a = true) : starEach (a :: as) env = (false, eval a env) :: starEach as env := by
  cases a <;> first
    | rfl
    | (simp [plainX] at h)
theorem plainIx_of {a : Expr} (h : plainX a = true) : PlainIx a := by
  intro o i
  cases a <;> first
    | rfl
    | (simp [plainX] at h)
theorem fset_of {a : Expr} {env : Env} (h : plainX a = true) : ∀ x, foldedSetIterable a env x = pure x := by
  intro x
  cases a <;> first
    | rfl
    | (simp [plainX] at h)
theorem mark_of {a : Expr} {op : CmpOp} (h : plainX a = true) : behindInMarks op a = false := by
  cases a <;> first
    | rfl
    | (simp [plainX] at h)
end Fb

set_option linter.all false
set_option maxRecDepth 100000
set_option maxHeartbeats 1000000
namespace Fb
open PySem PySem.Spec PyProof.Rows L2

/-! ### operators, by values, over SqL -/
section
variable {X : Cx}
def rCatS : R2 := fun x y H Q => ∃ l b xs zs, x = .ref l ∧ y = .ref b ∧ Rd H l (.lst xs) ∧ Rd H b (.lst zs) ∧ xs.length + zs.length ≤ sizeLine ∧ ∀ p, H p = none → Q (.ref p) (upd H p (.lst (xs ++ zs)))
def rRepS : R2 := fun x y H Q => ∃ l k xs, x = .ref l ∧ y = .int k ∧ Rd H l (.lst xs) ∧ -(2 ^ 63) ≤ k ∧ k < 2 ^ 63 ∧ xs.length * k.toNat ≤ sizeLine ∧ ∀ p, H p = none → Q (.ref p) (upd H p (.lst (List.replicate k.toNat xs).flatten))
theorem Inv.rdL {pins : List (Addr × Obj)} {σ : L2.St} {H : Hp} {s : Shared} (I : Inv X pins σ H s) {l : Addr} {xs : List V} (h : Rd H l (.lst xs)) :
    ∃ (its : List Value) (n : Nat), Vals xs its ∧ xs.length = its.length ∧ xs.length ≤ sizeLine ∧ s.heap.get? l = some { cls := .type "list", data := .seq its.toArray n } := by
  obtain ⟨z, its, n, r, e⟩ := h.ok I.hok
  exact ⟨its, n, r, r.length, z, e⟩
theorem op_catS : OpR X (binaryOp .Add) rCatS := by
  intro pins s σ H x y v u Q I rx ry h
  obtain ⟨l, b, xs, zs, rfl, rfl, hH, hB, hz, q⟩ := h
  cases rx
  cases ry
  obtain ⟨its, n, r, hl, z, e⟩ := Inv.rdL I hH
  obtain ⟨its2, n2, r2, hl2, z2, e2⟩ := Inv.rdL I hB
  refine PySem.P.add_list e e2 ?_ (by rw [List.size_toArray, List.size_toArray]; omega)
  have ea : its.toArray ++ its2.toArray = (its ++ its2).toArray := by simp
  rw [ea]
  exact ⟨.ref _, _, I.lnew (t' := s.toks) (r.append r2) (by rw [List.length_append]; omega), rfl, q _ I.fresh⟩
theorem op_repS : OpR X (binaryOp .Mult) rRepS := by
  intro pins s σ H x y v u Q I rx ry h
  obtain ⟨l, k, xs, rfl, rfl, hH, h1, h2, hz, q⟩ := h
  cases rx
  obtain ⟨t, rfl⟩ := ry
  obtain ⟨its, n, r, hl, z, e⟩ := Inv.rdL I hH
  have hlen : its.toArray.size * k.toNat ≤ sizeLine := by rw [List.size_toArray, ← hl]; exact hz
  have hcap : ¬ its.toArray.size * k.toNat > (2 ^ 63 - 1) / 8 := by
    have : (sizeLine : Nat) ≤ (2 ^ 63 - 1) / 8 := by decide
    omega
  have hfit : ¬ (!Builtin.List.listFitsIndex k) = true := by
    rw [fitsIndex_both h1 h2]
    exact Bool.false_ne_true
  have hlong : ¬ Builtin.List.listTooLong (its.toArray.size * k.toNat) = true := by
    rw [notLongL hlen]
    exact Bool.false_ne_true
  have hnew : List.foldl (fun x1 x2 => x1 ++ x2) #[] (List.replicate (if its.toArray.isEmpty = true then 0 else k.toNat) its.toArray) = (List.replicate k.toNat its).flatten.toArray := by
    have f0 : ∀ m : Nat, List.foldl (fun x1 x2 => x1 ++ x2) #[] (List.replicate m its.toArray) = (List.replicate m its).flatten.toArray := fun m => by
      have := foldl_rep its m []
      rw [List.nil_append] at this
      exact this
    rw [f0]
    cases its with
    | nil => simp
    | cons a r' => rw [if_neg (by simp)]
  refine wpAny_binaryOp_repeat_ref (T := "list") (U := "int") (by decide) ⟨_, e, rfl⟩ (fun s' => typeIs_int s' k t) noFill_list_mul F.fills_int_mul F.slot_int_rmul repeat_list F.slot_int_index.lookup
    (call_meets F.slot_int_rmul (typeIs_int s k t) F.entry_int_rmul (F.args_int_rmul_2 _ _) (int___rmul___int_list k t l its.toArray n)
      ⟨e, rfl, ⟨_, e, rfl⟩, call_meets F.slot_list_mul ⟨_, e, rfl⟩ F.entry_list_mul (F.args_list_mul_2 _ _) (AutoListH.list___mul___list_int_3 l its.toArray n k t hfit hcap hlong) ⟨e, ?_⟩⟩)
  rw [hnew]
  exact ⟨.ref _, _, I.lnew (t' := s.toks) (r.rep k.toNat) (by rw [PyProof.Rows.lm_len_rep_flat, Nat.mul_comm]; exact hz), rfl, q _ I.fresh⟩
end
/-- a call of a def, what is raised wished for at the caller's slots -/
def tCallG (n m : Nat) (sp : Sp) (gV : List V → List V → List V) (E : L2.St → XK) (t tk : TA) : TE := fun σ H Q => t σ H fun vs H1 => tk σ H1 fun zs H2 => vs.length = n ∧ zs.length = m ∧ sp (gV vs zs) H2 Q (E σ)
section
variable {X : Cx} {CX : CXT} {k n : Nat} {f : Addr} {fd : FuncData} {ps ks : List Str} {sp : Sp} {E : L2.St → XK} {x : Str} {p pos : Pos} {es : List Expr} {kws : List Keyword} {t tk : TA} {g : List Value → List Value → List Value} {gV : List V → List V → List V}
theorem run_fnG {pins : List (Addr × Obj)} {σ : L2.St} {H : Hp} {s : Shared} {Q : VK} {us ws : List Value} {vs zs : List V} (F : FnOk X.prog X.w X.K X.mg X.base CX k f fd ps sp) (hr : Room k X.A) (hb : KBn X.K fd ps n ks g gV) (hx : PassesAt CX X σ (E σ))
    (I : Inv X pins σ H s) (r : Vals vs us) (rz : Vals zs ws) (l1 : vs.length = n) (l2 : zs.length = ks.length) (h : sp (gV vs zs) H Q (E σ)) : wpAny (model X.prog X.w) X.A (call (.ref f) us (ks.zip ws)) (EP X pins σ Q) X.xe s := by
  have r2 := hb.rel r rz
  refine wpAny_call (codeAny_mono (F.run X.A X.stack s H ⟨us, ks.zip ws⟩ (g us ws) (gV vs zs) Q (E σ) hr I.env0 (hb.to s us ws I.kIn (r.length.symm.trans l1) (rz.length.symm.trans l2)) r2 h) fun r s' hq => ?_)
  cases r with
  | error e => exact hx pins H s e s' I hq
  | ok fl =>
    cases fl with
    | ret u => exact I.after hq
    | next => exact False.elim hq
    | brk => exact False.elim hq
    | cont => exact False.elim hq
theorem pe_callG {e0 : Expr} (F : FnOk X.prog X.w X.K X.mg X.base CX k f fd ps sp) (hr : Room k X.A) (hg : Gl X x) (hm : X.mg x = some (.ref f)) (hk : PySem.W.keepIn X.K (.ref f) = true) (hb : KBn X.K fd ps n ks g gV) (hx : ∀ σ, PassesAt CX X σ (E σ))
    (ha : PA X (e0 :: es) t) (hkw : PK X kws tk) (hall : (backToKw pos (keywordEach kws X.env)).all (·.1.isSome) = true) (hks : (backToKw pos (keywordEach kws X.env)).filterMap (·.1) = ks)
    (hdb : (x == ("__debug__" : Str)) = false) (he : starEach (e0 :: es) X.env = (false, eval e0 X.env) :: starEach es X.env)
    (hpl : ((backTo pos (starEach (e0 :: es) X.env)).any (·.1) || (backToKw pos (keywordEach kws X.env)).any (·.1.isNone)) = false) :
    PE X (.Call (.Name x p) (e0 :: es) kws pos) (tCallG n ks.length sp gV E t tk) := by
  refine ⟨fun pins s σ H Q I h => ?_⟩
  refine wpAny_Call_Name_kw (ld_glob I hg hm ?_ hdb)
  refine PySem.W.callWith_KW (h₀ := X.base) I.ok.mod.kin hk hall (thn (ha.run pos pins s σ H _ I h) fun us s1 ⟨vs, H1, I1, r, q⟩ => ?_) hpl he
  refine thn (hkw.run pos pins s1 σ H1 _ I1 q) fun ws s2 ⟨zs, H2, I2, rz, l1, l2, q2⟩ => ⟨I2.kIn, ?_⟩
  rw [hks]
  exact run_fnG F hr hb (hx σ) I2 r rz l1 l2 q2
theorem pe_callG0 (F : FnOk X.prog X.w X.K X.mg X.base CX k f fd ps sp) (hr : Room k X.A) (hg : Gl X x) (hm : X.mg x = some (.ref f)) (hk : PySem.W.keepIn X.K (.ref f) = true) (hb : KBn X.K fd ps 0 ks g gV) (hx : ∀ σ, PassesAt CX X σ (E σ))
    (hkw : PK X kws tk) (hall : (backToKw pos (keywordEach kws X.env)).all (·.1.isSome) = true) (hks : (backToKw pos (keywordEach kws X.env)).filterMap (·.1) = ks)
    (hdb : (x == ("__debug__" : Str)) = false)
    (hpl : ((backTo pos (starEach [] X.env)).any (·.1) || (backToKw pos (keywordEach kws X.env)).any (·.1.isNone)) = false) :
    PE X (.Call (.Name x p) [] kws pos) (tCallG 0 ks.length sp gV E tNil tk) := by
  refine ⟨fun pins s σ H Q I h => ?_⟩
  refine wpAny_Call_Name_kw (ld_glob I hg hm ?_ hdb)
  refine PySem.W.callWith_KW0 (h₀ := X.base) I.ok.mod.kin hk hall ?_ hpl
  refine thn (hkw.run pos pins s σ H _ I h) fun ws s2 ⟨zs, H2, I2, rz, l1, l2, q2⟩ => ⟨I2.kIn, ?_⟩
  rw [hks]
  exact run_fnG (us := []) (vs := []) F hr hb (hx σ) I2 .nil rz rfl l2 q2
end
end Fb

set_option linter.all false
set_option maxRecDepth 100000
set_option maxHeartbeats 1000000
namespace Fb
open PySem PySem.Spec L2

section
variable {G : Prg} {A : Cl} {T : Nm} {n : Nat} {X : Cx} {W : WX} {pos p : Pos} {j : Nat}
theorem sizeBig : sizeLine = big := by decide

theorem e_cst {d : D} {c : Const} (h : cstB d c = true) : PE X (.Constant c j pos) (tD G A X.K W (.cst d)) := by
  cases d with
  | non =>
    cases c <;> first
      | exact (pe_non (X := X)).imp fun σ H Q ⟨g, σd, h, R, S, w⟩ => w g _ _ (.refl _ _) R .non
      | exact Bool.noConfusion h
  | bl b =>
    cases c <;> first
      | (rename_i b'
         have e : b = b' := by simpa [cstB] using h
         subst e
         exact pe_bl.imp fun σ H Q ⟨g, σd, h, R, S, w⟩ => w g _ _ (.refl _ _) R (.bl _))
      | exact Bool.noConfusion h
  | int b =>
    cases c <;> first
      | (rename_i b'
         have e : b = b' := by simpa [cstB] using h
         subst e
         exact pe_int.imp fun σ H Q ⟨g, σd, h, R, S, w⟩ => w g _ _ (.refl _ _) R (.int _))
      | exact Bool.noConfusion h
  | str b =>
    cases c <;> first
      | (rename_i b'
         have e : b = b' := by simpa [cstB] using h
         subst e
         exact pe_str.imp fun σ H Q ⟨g, σd, h, R, S, w⟩ => w g _ _ (.refl _ _) R (.str _))
      | exact Bool.noConfusion h
  | tup _ => cases c <;> exact Bool.noConfusion h
  | lst _ => cases c <;> exact Bool.noConfusion h
  | obj _ _ _ => cases c <;> exact Bool.noConfusion h
  | clo _ _ _ _ _ => cases c <;> exact Bool.noConfusion h
  | ref _ => cases c <;> exact Bool.noConfusion h
  | fn _ => cases c <;> exact Bool.noConfusion h
  | exc _ _ _ _ _ => cases c <;> exact Bool.noConfusion h
theorem e_var {i : Nat} {x : Str} (hN : X.N[i]? = some x) (hv : Vis X.env.scope x) (hd : dbgB x = true) : PE X (.Name x pos) (tD G A X.K W (.var i)) :=
  (pe_var hN hv (dbg_of hd).1 (dbg_of hd).2).imp fun σ H Q ⟨g, σd, h, R, S, d, e, w⟩ => by
    obtain ⟨v, h1, h2⟩ := S.2 i d e
    exact ⟨v, h1, w g v H (.refl _ _) R h2⟩
theorem e_gcon (o : Good G A T n X W) {k : Nat} {x : Str} (hT : T.cons[k]? = some x) (hg : Gl X x) (hd : dbgB x = true) : PE X (.Name x pos) (tD G A X.K W (.gcon k)) := by
  cases hc : G.con k with
  | none =>
    refine ⟨fun pins s σ H Q I h => ?_⟩
    obtain ⟨g, σd, h, R, S, d, e, w⟩ := h
    rw [hc] at e
    cases e
  | some d =>
    obtain ⟨u, v, h1, h2, h3⟩ := o.con k x d hT hc
    refine (pe_glob hg h1 h2 (dbg_of hd).1).imp fun σ H Q ⟨g, σd, h, R, S, d', e, w⟩ => ?_
    rw [hc] at e
    cases e
    exact w g v H (.refl _ _) R (h3 g H)
theorem e_tup (o : Good G A T n X W) {es : IL} {as : List Expr} (h : PA X as (tDL G A X.K W es)) (hl : as.length ≤ 1000) (hes : es.length = as.length) : PE X (.Tuple as j pos) (tD G A X.K W (.tup es)) := by
  refine (pe_tup h).imp ?_
  rintro σ H Q ⟨g, σd, h, R, S, w⟩
  refine stepL o.mono R S (wpL_len o.mono es w) fun ds h1 g1 vs H1 e1 R1 r1 q => ⟨?_, fun p hp => ?_⟩
  · rw [← r1.length, q.1, hes, sizeBig]
    exact Nat.le_trans hl (by decide)
  · obtain ⟨e2, R2, r2⟩ := new_tup hp R1 r1
    exact q.2 g1 _ _ (e1.trans e2) R2 r2
theorem e_disp (o : Good G A T n X W) {m : Bool} {es : IL} {as : List Expr} (h : PA X as (tDL G A X.K W es)) (hl : as.length ≤ 1000) (hes : es.length = as.length) : PE X (.List as pos) (tD G A X.K W (.disp m es)) := by
  refine (pe_lst h).imp ?_
  rintro σ H Q ⟨g, σd, h, R, S, w⟩
  refine stepL o.mono R S (wpL_len o.mono es w) fun ds h1 g1 vs H1 e1 R1 r1 q => ⟨?_, mkL_new R1 e1 r1 q.2⟩
  rw [← r1.length, q.1, hes, sizeBig]
  exact Nat.le_trans hl (by decide)
theorem e_dnew : PE X (.Dict [] [] pos) (tD G A X.K W .dnew) := by
  refine pe_dnewK.imp ?_
  rintro σ H Q ⟨g, σd, h, R, S, w⟩ p hp
  obtain ⟨g', l, hl, e, R', r'⟩ := new_dic hp R
  exact w l hl g' _ _ e R' r'
theorem atS {z : Str} {i : Int} {d : D} (e : (if z.length ≤ big then (atI z.cps.toList i).map fun c => D.str ⟨#[c]⟩ else none) = some d) : z.length ≤ big ∧ ∃ c, atI z.cps.toList i = some c ∧ d = .str ⟨#[c]⟩ := by
  split at e
  · rename_i hz
    obtain ⟨c, h1, h2⟩ := Option.map_eq_some_iff.mp e
    exact ⟨hz, c, h1, h2.symm⟩
  · cases e
theorem e_idx (o : Good G A T n X W) {a b : IE} {a' b' : Expr} (ha : PE X a' (tD G A X.K W a)) (hb : PE X b' (tD G A X.K W b)) (hp : plainX b' = true) : PE X (.Subscript a' b' pos) (tD G A X.K W (.idx a b)) := by
  refine (pe_ix (IxR.or ix_str (IxR.or ix_list ix_tup)) ha hb (plainIx_of hp)).imp ?_
  rintro σ H Q ⟨g, σd, h, R, S, w⟩
  refine stepE o.mono R S w fun x h1 g1 v H1 e1 R1 r1 w1 => ?_
  refine stepE o.mono R1 (S.mono e1) (upE o.mono e1 w1) fun y h2 g2 u H2 e2 R2 r2 q => ?_
  obtain ⟨d, hd, q⟩ := q
  have r1' := r1.mono e2
  have e12 := e1.trans e2
  unfold idxD at hd
  split at hd
  · rename_i i
    cases r2
    split at hd
    · rename_i z
      cases r1'
      obtain ⟨hz, c, h3, h4⟩ := atS hd
      subst h4
      exact .inl ⟨z, i, c, rfl, rfl, by rw [sizeBig]; exact hz, h3, q g2 _ _ e12 R2 (.str _)⟩
    · cases hs : seqOf h2 x with
      | none => rw [hs] at hd; cases hd
      | some ds =>
        rw [hs] at hd
        obtain ⟨b, vs, h3, h4, h5⟩ := seqOf_sq R2 r1' hs
        subst h3
        obtain ⟨u, h6, h7⟩ := h5.at hd
        rcases h4 with h4 | h4
        · exact .inr (.inl ⟨b, vs, i, u, rfl, rfl, h4, h6, q g2 _ _ e12 R2 h7⟩)
        · exact .inr (.inr ⟨b, vs, i, u, rfl, rfl, h4, h6, q g2 _ _ e12 R2 h7⟩)
  · cases hd
theorem cut_rel {K : PySem.W.Frag} {g : Gh} {H : Hp} {ds : List D} {vs : List V} (r : RelDs K g H ds vs) (lo hi : Option Int) : RelDs K g H (cutD ds lo hi) (cutV vs lo hi) := by
  unfold cutD cutV
  rw [r.length]
  exact (r.drop _).take _
theorem e_slcT (o : Good G A T n X W) {a : IE} {lo hi : IO} {a' : Expr} {lo' hi' : Option Expr} {p2 : Pos} (ha : PE X a' (tD G A X.K W a)) (hlo : PO X lo' (tDO G A X.K W lo)) (hhi : PO X hi' (tDO G A X.K W hi)) :
    PE X (.Subscript a' (.Slice lo' hi' none p2) pos) (tD G A X.K W (.slcT a lo hi)) := by
  refine (pe_slice sl_tupA ha hlo hhi).imp ?_
  rintro σ H Q ⟨g, σd, h, R, S, w⟩
  refine stepE o.mono R S w fun x h1 g1 v H1 e1 R1 r1 w1 => ?_
  refine stepO o.mono R1 (S.mono e1) (upO o.mono e1 w1) fun l h2 g2 H2 e2 R2 w2 => ?_
  refine stepO o.mono R2 ((S.mono e1).mono e2) (upO o.mono (e1.trans e2) w2) fun u h3 g3 H3 e3 R3 q => ?_
  obtain ⟨ds, hx, q⟩ := q
  cases x <;> first
    | (cases hx; done)
    | skip
  have r1' := (r1.mono e2).mono e3
  cases hx
  cases r1' with
  | @tup b vs _ hs r =>
    have e123 := (e1.trans e2).trans e3
    refine ⟨b, vs, rfl, hs, fun hw => q g3 _ _ e123 R3 (.tup hs ?_), fun _ p hp => ?_⟩
    · have e : cutV vs l u = vs := by
        unfold cutV
        rw [hw.1, hw.2]
        simp
      have := cut_rel r l u
      rw [e] at this
      exact this
    · obtain ⟨e4, R4, r4⟩ := new_tup hp R3 (cut_rel r l u)
      exact q g3 _ _ (e123.trans e4) R4 r4
theorem e_slcL (o : Good G A T n X W) {m : Bool} {a : IE} {lo hi : IO} {a' : Expr} {lo' hi' : Option Expr} {p2 : Pos} (ha : PE X a' (tD G A X.K W a)) (hlo : PO X lo' (tDO G A X.K W lo)) (hhi : PO X hi' (tDO G A X.K W hi)) :
    PE X (.Subscript a' (.Slice lo' hi' none p2) pos) (tD G A X.K W (.slcL m a lo hi)) := by
  refine (pe_slice sl_list ha hlo hhi).imp ?_
  rintro σ H Q ⟨g, σd, h, R, S, w⟩
  refine stepE o.mono R S w fun x h1 g1 v H1 e1 R1 r1 w1 => ?_
  refine stepO o.mono R1 (S.mono e1) (upO o.mono e1 w1) fun l h2 g2 H2 e2 R2 w2 => ?_
  refine stepO o.mono R2 ((S.mono e1).mono e2) (upO o.mono (e1.trans e2) w2) fun u h3 g3 H3 e3 R3 q => ?_
  obtain ⟨ds, hx, q⟩ := q
  obtain ⟨b, vs, h4, h5, h6⟩ := lstOf_sq R3 ((r1.mono e2).mono e3) hx
  exact ⟨b, vs, h4, .inl h5, mkL_new R3 ((e1.trans e2).trans e3) (cut_rel h6 l u) q⟩
theorem bin2 (o : Good G A T n X W) {a b : IE} {P : D → D → DH → Prop} {r : R2} {σ : L2.St} {H : Hp} {Q : VK} {g : Gh} {σd : Sg} {h : DH} (R : HRel X.K g h H) (S : RelS X.K g H σd σ)
    (w : wpE G a σd h (fun x h1 => wpE G b σd h1 (P x) (KX A X.K g H fun c d H' => W c d σ H')) (KX A X.K g H fun c d H' => W c d σ H'))
    (f : ∀ x y h2 g2 v u H2, Ext g H g2 H2 → HRel X.K g2 h2 H2 → RelD X.K g2 H2 x v → RelD X.K g2 H2 y u → P x y h2 → r v u H2 Q) : tOp r (tD G A X.K W a) (tD G A X.K W b) σ H Q := by
  refine stepE o.mono R S w fun x h1 g1 v H1 e1 R1 r1 w1 => ?_
  exact stepE o.mono R1 (S.mono e1) (upE o.mono e1 w1) fun y h2 g2 u H2 e2 R2 r2 q => f x y h2 g2 v u H2 (e1.trans e2) R2 (r1.mono e2) r2 q
theorem e_bin (o : Good G A T n X W) {op : BO} {op' : Operator} {a b : IE} {a' b' : Expr} (hop : boB op op' = true) (ha : PE X a' (tD G A X.K W a)) (hb : PE X b' (tD G A X.K W b)) : PE X (.BinOp a' op' b' pos) (tD G A X.K W (.bin op a b)) := by
  cases op <;> cases op' <;> first
    | (exact Bool.noConfusion hop; done)
    | skip
  · exact (pe_op op_add ha hb).imp fun σ H Q ⟨g, σd, h, R, S, w⟩ => bin2 o R S w fun x y h2 g2 v u H2 e R2 r1 r2 ⟨i, j, hx, hy, q⟩ => by
      subst hx; subst hy; cases r1; cases r2; exact ⟨i, j, rfl, rfl, q g2 _ _ e R2 (.int _)⟩
  · exact (pe_op op_sub ha hb).imp fun σ H Q ⟨g, σd, h, R, S, w⟩ => bin2 o R S w fun x y h2 g2 v u H2 e R2 r1 r2 ⟨i, j, hx, hy, q⟩ => by
      subst hx; subst hy; cases r1; cases r2; exact ⟨i, j, rfl, rfl, q g2 _ _ e R2 (.int _)⟩
  · exact (pe_op op_mul ha hb).imp fun σ H Q ⟨g, σd, h, R, S, w⟩ => bin2 o R S w fun x y h2 g2 v u H2 e R2 r1 r2 ⟨i, j, hx, hy, q⟩ => by
      subst hx; subst hy; cases r1; cases r2; exact ⟨i, j, rfl, rfl, q.1, q.2 g2 _ _ e R2 (.int _)⟩
  · exact (pe_op op_fdiv ha hb).imp fun σ H Q ⟨g, σd, h, R, S, w⟩ => bin2 o R S w fun x y h2 g2 v u H2 e R2 r1 r2 ⟨i, j, hx, hy, q⟩ => by
      subst hx; subst hy; cases r1; cases r2; exact ⟨i, j, rfl, rfl, q.1, q.2 g2 _ _ e R2 (.int _)⟩
  · exact (pe_op op_mod ha hb).imp fun σ H Q ⟨g, σd, h, R, S, w⟩ => bin2 o R S w fun x y h2 g2 v u H2 e R2 r1 r2 ⟨i, j, hx, hy, q⟩ => by
      subst hx; subst hy; cases r1; cases r2; exact ⟨i, j, rfl, rfl, q.1, q.2 g2 _ _ e R2 (.int _)⟩
  · exact (pe_op op_pow ha hb).imp fun σ H Q ⟨g, σd, h, R, S, w⟩ => bin2 o R S w fun x y h2 g2 v u H2 e R2 r1 r2 ⟨i, j, hx, hy, q⟩ => by
      subst hx; subst hy; cases r1; cases r2; exact ⟨i, j, rfl, rfl, q.1, q.2 g2 _ _ e R2 (.int _)⟩
theorem e_neg (o : Good G A T n X W) {a : IE} {a' : Expr} (ha : PE X a' (tD G A X.K W a)) : PE X (.UnaryOp .USub a' pos) (tD G A X.K W (.neg a)) :=
  (pe_un un_neg ha).imp fun σ H Q ⟨g, σd, h, R, S, w⟩ => stepE o.mono R S w fun x h1 g1 v H1 e1 R1 r1 ⟨i, hx, q⟩ => by
    subst hx; cases r1; exact ⟨i, rfl, q g1 _ _ e1 R1 (.int _)⟩
theorem e_catT (o : Good G A T n X W) {a b : IE} {a' b' : Expr} (ha : PE X a' (tD G A X.K W a)) (hb : PE X b' (tD G A X.K W b)) : PE X (.BinOp a' .Add b' pos) (tD G A X.K W (.catT a b)) :=
  (pe_op op_catA ha hb).imp fun σ H Q ⟨g, σd, h, R, S, w⟩ => bin2 o R S w fun x y h2 g2 v u H2 e R2 r1 r2 ⟨xs, ys, hx, hy, hl, q⟩ => by
    subst hx
    subst hy
    cases r1 with
    | @tup p vs _ s1 q1 =>
      cases r2 with
      | @tup p' us _ s2 q2 =>
        refine ⟨p, p', vs, us, rfl, rfl, s1, s2, by rw [← q1.length, ← q2.length, sizeBig]; exact hl, fun hv => ?_, fun _ hu => ?_, fun _ _ z hz => ?_⟩
        · subst hv
          cases q1
          exact q g2 _ _ e R2 (.tup s2 q2)
        · subst hu
          cases q2
          rw [List.append_nil] at q
          exact q g2 _ _ e R2 (.tup s1 q1)
        · obtain ⟨e4, R4, r4⟩ := new_tup hz R2 (q1.append q2)
          exact q g2 _ _ (e.trans e4) R4 r4
theorem e_cat (o : Good G A T n X W) {m : Bool} {a b : IE} {a' b' : Expr} (ha : PE X a' (tD G A X.K W a)) (hb : PE X b' (tD G A X.K W b)) : PE X (.BinOp a' .Add b' pos) (tD G A X.K W (.cat m a b)) :=
  (pe_op op_catS ha hb).imp fun σ H Q ⟨g, σd, h, R, S, w⟩ => bin2 o R S w fun x y h2 g2 v u H2 e R2 r1 r2 ⟨xs, ys, hx, hy, hl, q⟩ => by
    obtain ⟨p1, vs, h1, h3, h4⟩ := lstOf_sq R2 r1 hx
    obtain ⟨p2, us, h5, h6, h7⟩ := lstOf_sq R2 r2 hy
    exact ⟨p1, p2, vs, us, h1, h5, h3, h6, by rw [← h4.length, ← h7.length, sizeBig]; exact hl, mkL_new R2 e (h4.append h7) q⟩
theorem e_rep (o : Good G A T n X W) {m : Bool} {a b : IE} {a' b' : Expr} (ha : PE X a' (tD G A X.K W a)) (hb : PE X b' (tD G A X.K W b)) : PE X (.BinOp a' .Mult b' pos) (tD G A X.K W (.rep m a b)) :=
  (pe_op op_repS ha hb).imp fun σ H Q ⟨g, σd, h, R, S, w⟩ => bin2 o R S w fun x y h2 g2 v u H2 e R2 r1 r2 ⟨xs, k, hx, hy, hk1, hk2, hl, q⟩ => by
    obtain ⟨p1, vs, h1, h3, h4⟩ := lstOf_sq R2 r1 hx
    subst hy
    cases r2
    exact ⟨p1, k, vs, h1, rfl, h3, hk1, hk2, by rw [← h4.length, sizeBig]; exact hl, mkL_new R2 e (h4.rep _) q⟩
theorem both {e : IE} {op : CmpOp} {r : R2} {ta tb : TE} {a' b' : Expr} (ho : OpR X (compareOp op) r) (ha : PE X a' ta) (hb : PE X b' tb) (hm : behindInMarks op b' = false) (f : ∀ σ H Q, tD G A X.K W e σ H Q → tOp r ta tb σ H Q) :
    PE X (.Compare a' [op] [b'] pos) (tD G A X.K W e) ∧ PT X (.Compare a' [op] [b'] pos) (tDT G A X.K W e) :=
  ⟨(pe_cmpR ho ha hb hm).imp f, (pt_cmpR ho ha hb hm).imp fun σ H Q w => f σ H (fun x H' => ∃ k, x = .bl k ∧ Q k H') w⟩
theorem e_cmp (o : Good G A T n X W) {op : CO} {op' : CmpOp} {a b : IE} {a' b' : Expr} (hop : coB op op' = true) (ha : PE X a' (tD G A X.K W a)) (hb : PE X b' (tD G A X.K W b)) : PE X (.Compare a' [op'] [b'] pos) (tD G A X.K W (.cmp op a b)) ∧ PT X (.Compare a' [op'] [b'] pos) (tDT G A X.K W (.cmp op a b)) := by
  cases op <;> cases op' <;> first
    | (exact Bool.noConfusion hop; done)
    | skip
  · exact both op_lt ha hb (nomark _) fun σ H Q ⟨g, σd, h, R, S, w⟩ => bin2 o R S w fun x y h2 g2 v u H2 e R2 r1 r2 ⟨i, j, hx, hy, q⟩ => by
      subst hx; subst hy; cases r1; cases r2; exact ⟨i, j, rfl, rfl, q g2 _ _ e R2 (.bl _)⟩
  · exact both op_le ha hb (nomark _) fun σ H Q ⟨g, σd, h, R, S, w⟩ => bin2 o R S w fun x y h2 g2 v u H2 e R2 r1 r2 ⟨i, j, hx, hy, q⟩ => by
      subst hx; subst hy; cases r1; cases r2; exact ⟨i, j, rfl, rfl, q g2 _ _ e R2 (.bl _)⟩
  · exact both op_gt ha hb (nomark _) fun σ H Q ⟨g, σd, h, R, S, w⟩ => bin2 o R S w fun x y h2 g2 v u H2 e R2 r1 r2 ⟨i, j, hx, hy, q⟩ => by
      subst hx; subst hy; cases r1; cases r2; exact ⟨i, j, rfl, rfl, q g2 _ _ e R2 (.bl _)⟩
  · exact both op_ge ha hb (nomark _) fun σ H Q ⟨g, σd, h, R, S, w⟩ => bin2 o R S w fun x y h2 g2 v u H2 e R2 r1 r2 ⟨i, j, hx, hy, q⟩ => by
      subst hx; subst hy; cases r1; cases r2; exact ⟨i, j, rfl, rfl, q g2 _ _ e R2 (.bl _)⟩
theorem e_eq (o : Good G A T n X W) {ng : Bool} {op' : CmpOp} {a b : IE} {a' b' : Expr} (hop : eqB ng op' = true) (ha : PE X a' (tD G A X.K W a)) (hb : PE X b' (tD G A X.K W b)) : PE X (.Compare a' [op'] [b'] pos) (tD G A X.K W (.eq ng a b)) ∧ PT X (.Compare a' [op'] [b'] pos) (tDT G A X.K W (.eq ng a b)) := by
  cases ng <;> cases op' <;> first
    | (exact Bool.noConfusion hop; done)
    | skip
  · exact both (op_eqD o.units) ha hb (nomark _) fun σ H Q ⟨g, σd, h, R, S, w⟩ => bin2 o R S w fun x y h2 g2 v u H2 e R2 r1 r2 ⟨d, e', hx, hy, s1, s2, q⟩ =>
      ⟨d, e', toP_dp R2 r1 hx, toP_dp R2 r2 hy, s1, s2, q g2 _ _ e R2 (.bl _)⟩
  · exact both (op_neD o.units) ha hb (nomark _) fun σ H Q ⟨g, σd, h, R, S, w⟩ => bin2 o R S w fun x y h2 g2 v u H2 e R2 r1 r2 ⟨d, e', hx, hy, s1, s2, q⟩ =>
      ⟨d, e', toP_dp R2 r1 hx, toP_dp R2 r2 hy, s1, s2, q g2 _ _ e R2 (.bl _)⟩
theorem isnon {K : PySem.W.Frag} {g : Gh} {H : Hp} {x : D} {v : V} (r : RelD K g H x v) : decide (v = V.non) = isNonD x := by
  cases r <;> simp [isNonD]
theorem e_isN (o : Good G A T n X W) {ng : Bool} {op' : CmpOp} {a : IE} {a' : Expr} (hop : isB ng op' = true) (ha : PE X a' (tD G A X.K W a)) : PE X (.Compare a' [op'] [.Constant .none j p] pos) (tD G A X.K W (.isN ng a)) ∧ PT X (.Compare a' [op'] [.Constant .none j p] pos) (tDT G A X.K W (.isN ng a)) := by
  cases ng <;> cases op' <;> first
    | (exact Bool.noConfusion hop; done)
    | skip
  · have f : ∀ σ H Q, tD G A X.K W (.isN false a) σ H Q → tIsN (tD G A X.K W a) σ H Q := fun σ H Q ⟨g, σd, h, R, S, w⟩ => stepE o.mono R S w fun x h1 g1 v H1 e1 R1 r1 q => by
      have q' := q g1 _ _ e1 R1 (.bl _)
      rw [isnon r1]
      exact q'
    exact ⟨(pe_cmp (pc_isN ha) rfl).imp f, (pt_cmp (pc_isN ha) rfl).imp fun σ H Q w => f σ H _ w⟩
  · have f : ∀ σ H Q, tD G A X.K W (.isN true a) σ H Q → tNotN (tD G A X.K W a) σ H Q := fun σ H Q ⟨g, σd, h, R, S, w⟩ => stepE o.mono R S w fun x h1 g1 v H1 e1 R1 r1 q => by
      have q' := q g1 _ _ e1 R1 (.bl _)
      rw [isnon r1]
      exact q'
    exact ⟨(pe_cmp (pc_notN ha) rfl).imp f, (pt_cmp (pc_notN ha) rfl).imp fun σ H Q w => f σ H _ w⟩
end
end Fb

set_option linter.all false
set_option maxRecDepth 100000
set_option maxHeartbeats 1000000
namespace Fb
open PySem PySem.Spec L2

section
variable {G : Prg} {A : Cl} {T : Nm} {n : Nat} {X : Cx} {W : WX} {pos p : Pos} {j : Nat}
/-! ### in -/
def rInT (K : PySem.W.Frag) : R2 := fun x y H Q => ∃ d ds, Dp K H x d ∧ Dp K H y (.tuple ds) ∧ SeqAt.shaped d = true ∧ SeqAt.shaped (.tuple ds) = true ∧ Q (.bl (ds.any fun z => PyData.eqv z d)) H
def rNotInT (K : PySem.W.Frag) : R2 := fun x y H Q => ∃ d ds, Dp K H x d ∧ Dp K H y (.tuple ds) ∧ SeqAt.shaped d = true ∧ SeqAt.shaped (.tuple ds) = true ∧ Q (.bl (!ds.any fun z => PyData.eqv z d)) H
theorem op_inT (hu : X.A.units + 65 < cLine) : OpR X (compareOp .In) (rInT X.K) := by
  intro pins s σ H x y v u Q I rx ry h
  obtain ⟨d, ds, hd, he, sd, se, q⟩ := h
  obtain ⟨as, r1⟩ := Dp.reads I d x v hd rx
  obtain ⟨bs, r2⟩ := Dp.reads I (.tuple ds) y u he ry
  exact SeqAt.in_tuple_reads r2 r1 (SeqAt.canLay_of_shaped se) (SeqAt.canLay_of_shaped sd) (PyProof.Rows.room_in_shaped sd hu) ⟨.bl _, H, I, rfl, q⟩
theorem op_notInT (hu : X.A.units + 65 < cLine) : OpR X (compareOp .NotIn) (rNotInT X.K) := by
  intro pins s σ H x y v u Q I rx ry h
  obtain ⟨d, ds, hd, he, sd, se, q⟩ := h
  obtain ⟨as, r1⟩ := Dp.reads I d x v hd rx
  obtain ⟨bs, r2⟩ := Dp.reads I (.tuple ds) y u he ry
  exact SeqAt.notIn_tuple_reads r2 r1 (SeqAt.canLay_of_shaped se) (SeqAt.canLay_of_shaped sd) (PyProof.Rows.room_in_shaped sd hu) ⟨.bl _, H, I, rfl, q⟩
theorem Good.units65 (o : Good G A T n X W) : X.A.units + 65 < cLine := by have := o.un; omega
theorem e_inn (o : Good G A T n X W) {ng : Bool} {op' : CmpOp} {a b : IE} {a' b' : Expr} (hop : inB ng op' = true) (ha : PE X a' (tD G A X.K W a)) (hb : PE X b' (tD G A X.K W b)) (hp : plainX b' = true) : PE X (.Compare a' [op'] [b'] pos) (tD G A X.K W (.inn ng a b)) ∧ PT X (.Compare a' [op'] [b'] pos) (tDT G A X.K W (.inn ng a b)) := by
  cases ng <;> cases op' <;> first
    | (exact Bool.noConfusion hop; done)
    | skip
  · exact both (OpR.or (op_inD o.units65) (op_inT o.units65)) ha hb (mark_of hp) fun σ H Q ⟨g, σd, h, R, S, w⟩ => bin2 o R S w fun x y h2 g2 v u H2 e R2 r1 r2 ⟨d, ds, hx, hy, s1, q⟩ => by
      rcases hy with ⟨hy, s2⟩ | ⟨hy, s2⟩
      · exact .inl ⟨d, ds, toP_dp R2 r1 hx, toP_dp R2 r2 hy, s1, s2, q g2 _ _ e R2 (.bl _)⟩
      · exact .inr ⟨d, ds, toP_dp R2 r1 hx, toP_dp R2 r2 hy, s1, s2, q g2 _ _ e R2 (.bl _)⟩
  · exact both (OpR.or (op_notInD o.units65) (op_notInT o.units65)) ha hb (mark_of hp) fun σ H Q ⟨g, σd, h, R, S, w⟩ => bin2 o R S w fun x y h2 g2 v u H2 e R2 r1 r2 ⟨d, ds, hx, hy, s1, q⟩ => by
      rcases hy with ⟨hy, s2⟩ | ⟨hy, s2⟩
      · exact .inl ⟨d, ds, toP_dp R2 r1 hx, toP_dp R2 r2 hy, s1, s2, q g2 _ _ e R2 (.bl _)⟩
      · exact .inr ⟨d, ds, toP_dp R2 r1 hx, toP_dp R2 r2 hy, s1, s2, q g2 _ _ e R2 (.bl _)⟩
/-! ### tests -/
/-- a value's reading as a test's -/
theorem tDT_val {e : IE} {a : Expr} (h : PE X a (tD G A X.K W e)) (he : ∀ whole, isTrue a X.env whole = (do let v ← whole; standAt a.pos; holding [v] (truthy v))) : PT X a (tDT G A X.K W e) :=
  (pt_val h he).imp fun σ H Q w => w
/-! ### not, if, and, or -/
theorem e_not (o : Good G A T n X W) {a : IE} {a' : Expr} (ha : PE X a' (tD G A X.K W a)) : PE X (.UnaryOp .Not a' pos) (tD G A X.K W (.not a)) :=
  (pe_not ha).imp fun σ H Q ⟨g, σd, h, R, S, w⟩ => stepE o.mono R S w fun x h1 g1 v H1 e1 R1 r1 ⟨c, hx, q⟩ => by
    subst hx; cases r1; exact ⟨c, rfl, q g1 _ _ e1 R1 (.bl _)⟩
theorem t_not (o : Good G A T n X W) {a : IE} {a' : Expr} (ha : PT X a' (tDT G A X.K W a)) : PT X (.UnaryOp .Not a' pos) (tDT G A X.K W (.not a)) :=
  (pt_not ha).imp fun σ H Q ⟨g, σd, h, R, S, w⟩ => stepE o.mono R S w fun x h1 g1 v H1 e1 R1 r1 ⟨c, hx, q⟩ => by
    subst hx
    cases r1
    obtain ⟨c', h1, h2⟩ := q g1 _ _ e1 R1 (.bl _)
    cases h1
    exact ⟨c, rfl, h2⟩
theorem e_ite (o : Good G A T n X W) {c a b : IE} {c' a' b' : Expr} (hc : PT X c' (tDT G A X.K W c)) (ha : PE X a' (tD G A X.K W a)) (hb : PE X b' (tD G A X.K W b)) : PE X (.IfExp c' a' b' pos) (tD G A X.K W (.ite c a b)) :=
  (pe_ifExp hc ha hb).imp fun σ H Q ⟨g, σd, h, R, S, w⟩ => stepE o.mono R S w fun x h1 g1 v H1 e1 R1 r1 ⟨c, hx, q⟩ => by
    subst hx
    cases r1
    refine ⟨c, rfl, ?_⟩
    cases c with
    | true =>
      rw [if_pos rfl] at q ⊢
      exact stepE o.mono R1 (S.mono e1) (upE o.mono e1 q) fun d h2 g2 v2 H2 e2 R2 r2 z => z g2 v2 H2 (e1.trans e2) R2 r2
    | false =>
      rw [if_neg (by decide)] at q ⊢
      exact stepE o.mono R1 (S.mono e1) (upE o.mono e1 q) fun d h2 g2 v2 H2 e2 R2 r2 z => z g2 v2 H2 (e1.trans e2) R2 r2
theorem isTrue_ifExp {M : Model} {A : Around} {E : Value → Shared → Prop} {s : Shared} {env : Env} {c a b : Expr} {whole : Sem Value} {Q : Bool → Shared → Prop}
    (h : wpAny M A (isTrue c env (eval c env)) (fun d s1 => wpAny M A (if d = true then isTrue a env (eval a env) else isTrue b env (eval b env)) Q E s1) E s) : wpAny M A (isTrue (.IfExp c a b pos) env whole) Q E s := by
  show wpAny M A (do if ← isTrue c env (eval c env) then isTrue a env (eval a env) else isTrue b env (eval b env)) Q E s
  exact wpAny_bind h
theorem t_ite (o : Good G A T n X W) {c a b : IE} {c' a' b' : Expr} (hc : PT X c' (tDT G A X.K W c)) (ha : PT X a' (tDT G A X.K W a)) (hb : PT X b' (tDT G A X.K W b)) : PT X (.IfExp c' a' b' pos) (tDT G A X.K W (.ite c a b)) := by
  refine ⟨fun pins s σ H Q I w => ?_⟩
  obtain ⟨g, σd, h, R, S, w⟩ := w
  refine isTrue_ifExp (thn (hc.run pins s σ H (fun d H1 => if d = true then tDT G A X.K W a σ H1 Q else tDT G A X.K W b σ H1 Q) I ?_) fun d s1 ⟨H1, I1, q1⟩ => ?_)
  · refine stepE o.mono R S w fun x h1 g1 v H1 e1 R1 r1 ⟨c, hx, q⟩ => ?_
    subst hx
    cases r1
    refine ⟨c, rfl, ?_⟩
    cases c with
    | true =>
      rw [if_pos rfl] at q ⊢
      exact stepE o.mono R1 (S.mono e1) (upE o.mono e1 q) fun d h2 g2 v2 H2 e2 R2 r2 z => z g2 v2 H2 (e1.trans e2) R2 r2
    | false =>
      rw [if_neg (by decide)] at q ⊢
      exact stepE o.mono R1 (S.mono e1) (upE o.mono e1 q) fun d h2 g2 v2 H2 e2 R2 r2 z => z g2 v2 H2 (e1.trans e2) R2 r2
  · cases d with
    | true => rw [if_pos rfl] at q1 ⊢; exact ha.run pins s1 σ H1 Q I1 q1
    | false => rw [if_neg (by decide)] at q1 ⊢; exact hb.run pins s1 σ H1 Q I1 q1
theorem e_and2 (o : Good G A T n X W) {a b : IE} {r : IL} {a' b' : Expr} {rs : List Expr} (ha : PE X a' (tD G A X.K W a)) (hb : PE X (.BoolOp .And (b' :: rs) pos) (tD G A X.K W (.band (.cons b r)))) : PE X (.BoolOp .And (a' :: b' :: rs) pos) (tD G A X.K W (.band (.cons a (.cons b r)))) :=
  (pe_and ha hb).imp fun σ H Q ⟨g, σd, h, R, S, w⟩ => stepE o.mono R S w fun x h1 g1 v H1 e1 R1 r1 ⟨c, hx, q⟩ => by
    subst hx
    cases r1
    refine ⟨c, rfl, ?_⟩
    cases c with
    | true =>
      rw [if_pos rfl] at q ⊢
      exact stepE (e := .band (.cons b r)) o.mono R1 (S.mono e1) (upE (e := .band (.cons b r)) o.mono e1 q) fun d h2 g2 v2 H2 e2 R2 r2 z => z g2 v2 H2 (e1.trans e2) R2 r2
    | false =>
      rw [if_neg (by decide)] at q ⊢
      exact q g1 _ _ e1 R1 (.bl _)
theorem e_or2 (o : Good G A T n X W) {a b : IE} {r : IL} {a' b' : Expr} {rs : List Expr} (ha : PE X a' (tD G A X.K W a)) (hb : PE X (.BoolOp .Or (b' :: rs) pos) (tD G A X.K W (.bor (.cons b r)))) : PE X (.BoolOp .Or (a' :: b' :: rs) pos) (tD G A X.K W (.bor (.cons a (.cons b r)))) :=
  (pe_or ha hb).imp fun σ H Q ⟨g, σd, h, R, S, w⟩ => stepE o.mono R S w fun x h1 g1 v H1 e1 R1 r1 ⟨c, hx, q⟩ => by
    subst hx
    cases r1
    refine ⟨c, rfl, ?_⟩
    cases c with
    | false =>
      rw [if_neg (by decide)] at q ⊢
      exact stepE (e := .bor (.cons b r)) o.mono R1 (S.mono e1) (upE (e := .bor (.cons b r)) o.mono e1 q) fun d h2 g2 v2 H2 e2 R2 r2 z => z g2 v2 H2 (e1.trans e2) R2 r2
    | true =>
      rw [if_pos rfl] at q ⊢
      exact q g1 _ _ e1 R1 (.bl _)
theorem t_and2 (o : Good G A T n X W) {a b : IE} {r : IL} {a' b' : Expr} {rs : List Expr} (ha : PT X a' (tDT G A X.K W a)) (hb : PW X (.BoolOp .And (b' :: rs) pos) (tDT G A X.K W (.band (.cons b r)))) : PW X (.BoolOp .And (a' :: b' :: rs) pos) (tDT G A X.K W (.band (.cons a (.cons b r)))) :=
  (pw_and ha hb).imp fun σ H Q ⟨g, σd, h, R, S, w⟩ => stepE o.mono R S w fun x h1 g1 v H1 e1 R1 r1 ⟨c, hx, q⟩ => by
    subst hx
    cases r1
    refine ⟨c, rfl, ?_⟩
    cases c with
    | true =>
      rw [if_pos rfl] at q ⊢
      exact stepE (e := .band (.cons b r)) o.mono R1 (S.mono e1) (upE (e := .band (.cons b r)) o.mono e1 q) fun d h2 g2 v2 H2 e2 R2 r2 z => z g2 v2 H2 (e1.trans e2) R2 r2
    | false =>
      rw [if_neg (by decide)] at q ⊢
      obtain ⟨c', h1, h2⟩ := q g1 _ _ e1 R1 (.bl _)
      cases h1
      exact h2
theorem t_or2 (o : Good G A T n X W) {a b : IE} {r : IL} {a' b' : Expr} {rs : List Expr} (ha : PT X a' (tDT G A X.K W a)) (hb : PW X (.BoolOp .Or (b' :: rs) pos) (tDT G A X.K W (.bor (.cons b r)))) : PW X (.BoolOp .Or (a' :: b' :: rs) pos) (tDT G A X.K W (.bor (.cons a (.cons b r)))) :=
  (pw_or ha hb).imp fun σ H Q ⟨g, σd, h, R, S, w⟩ => stepE o.mono R S w fun x h1 g1 v H1 e1 R1 r1 ⟨c, hx, q⟩ => by
    subst hx
    cases r1
    refine ⟨c, rfl, ?_⟩
    cases c with
    | false =>
      rw [if_neg (by decide)] at q ⊢
      exact stepE (e := .bor (.cons b r)) o.mono R1 (S.mono e1) (upE (e := .bor (.cons b r)) o.mono e1 q) fun d h2 g2 v2 H2 e2 R2 r2 z => z g2 v2 H2 (e1.trans e2) R2 r2
    | true =>
      rw [if_pos rfl] at q ⊢
      obtain ⟨c', h1, h2⟩ := q g1 _ _ e1 R1 (.bl _)
      cases h1
      exact h2
/-! ### built-ins -/
theorem unary (o : Good G A T n X W) {a : IE} {P : QD} {r : List V → Hp → VK → Prop} {σ : L2.St} {H : Hp} {Q : VK} {g : Gh} {σd : Sg} {h : DH} (R : HRel X.K g h H) (S : RelS X.K g H σd σ)
    (w : wpE G a σd h P (KX A X.K g H fun c d H' => W c d σ H')) (f : ∀ x h1 g1 v H1, Ext g H g1 H1 → HRel X.K g1 h1 H1 → RelD X.K g1 H1 x v → P x h1 → r [v] H1 Q) : tCB r (tCons (tD G A X.K W a) tNil) σ H Q :=
  stepE o.mono R S w fun x h1 g1 v H1 e1 R1 r1 q => f x h1 g1 v H1 e1 R1 r1 q
theorem blt_of {X : Cx} {sc : Scope} (S : ScR sc X) {x : Str} {nm : String} (h : bltB sc x nm = true) : x = (nm : Str) ∧ Gl X (nm : Str) := by
  unfold bltB at h
  obtain ⟨h1, h2⟩ := andB h
  have e := beq_of h1
  subst e
  exact ⟨rfl, S.gl _ h2⟩
theorem e_len (o : Good G A T n X W) {sc : Scope} (SC : ScR sc X) {x : Str} {a : IE} {a' : Expr} (hx : bltB sc x "len" = true) (ha : PE X a' (tD G A X.K W a)) (hp : plainX a' = true) : PE X (.Call (.Name x p) [a'] [] pos) (tD G A X.K W (.len a)) := by
  obtain ⟨rfl, hg⟩ := blt_of SC hx
  refine (pe_callB call_len hg (o.blt _ (by decide)) PySem.boot_len (pa_cons ha pa_nil (star_of hp)) (he := star_of hp)).imp fun σ H Q ⟨g, σd, h, R, S, w⟩ => unary o R S w fun x h1 g1 v H1 e1 R1 r1 ⟨k, hk, q⟩ => ?_
  refine ⟨v, k, rfl, ?_, q g1 _ _ e1 R1 (.int _)⟩
  unfold lenD at hk
  split at hk
  · cases r1
    split at hk
    · cases hk
      exact ⟨by rw [sizeBig]; assumption, rfl⟩
    · cases hk
  · obtain ⟨ds, h3, h4⟩ := Option.map_eq_some_iff.mp hk
    obtain ⟨b, vs, h5, h6, h7⟩ := seqOf_sq R1 r1 h3
    subst h5
    rw [← h4, h7.length]
    exact h6.elim (fun z => .inl ⟨vs, z, rfl⟩) fun z => .inr ⟨vs, z, rfl⟩
theorem e_int1 (o : Good G A T n X W) {sc : Scope} (SC : ScR sc X) {x : Str} {a : IE} {a' : Expr} (hx : bltB sc x "int" = true) (ha : PE X a' (tD G A X.K W a)) (hp : plainX a' = true) : PE X (.Call (.Name x p) [a'] [] pos) (tD G A X.K W (.int1 a)) := by
  obtain ⟨rfl, hg⟩ := blt_of SC hx
  refine (pe_callTy call_int1 hg (o.blt _ (by decide)) PyProof.Rows.boot_int (pa_cons ha pa_nil (star_of hp)) (he := star_of hp)).imp fun σ H Q ⟨g, σd, h, R, S, w⟩ => unary o R S w fun x h1 g1 v H1 e1 R1 r1 q => ?_
  rcases q with ⟨i, hx, q⟩ | ⟨c, hx, q⟩
  · subst hx; cases r1; exact .inl ⟨i, rfl, q g1 _ _ e1 R1 (.int _)⟩
  · subst hx; cases r1; exact .inr ⟨c, rfl, q g1 _ _ e1 R1 (.int _)⟩
theorem bools_rel {K : PySem.W.Frag} {g : Gh} {H : Hp} : ∀ {ds : List D} {vs : List V} {bs : List Bool}, RelDs K g H ds vs → bools ds = some bs → vs = bs.map V.bl
  | _, _, _, .nil, e => by cases e; rfl
  | d :: ds, _, bs, .cons r1 r2, e => by
    cases d <;> first
      | (cases e; done)
      | skip
    cases r1
    rename_i b
    obtain ⟨cs, h1, h2⟩ := Option.map_eq_some_iff.mp (show (bools ds).map (b :: ·) = some bs from e)
    subst h2
    rw [bools_rel r2 h1]
    rfl
theorem e_any (o : Good G A T n X W) (hh : T.hot = false) {sc : Scope} (SC : ScR sc X) {x : Str} {a : IE} {a' : Expr} (hx : bltB sc x "any" = true) (ha : PE X a' (tD G A X.K W a)) (hp : plainX a' = true) : PE X (.Call (.Name x p) [a'] [] pos) (tD G A X.K W (.any a)) := by
  obtain ⟨rfl, hg⟩ := blt_of SC hx
  refine (pe_callB (cr_any (o.calm hh)) hg (o.blt _ (by decide)) PyProof.Rows.boot_any (pa_cons ha pa_nil (star_of hp)) (he := star_of hp)).imp fun σ H Q ⟨g, σd, h, R, S, w⟩ => unary o R S w fun x h1 g1 v H1 e1 R1 r1 ⟨ds, bs, hd, hb, q⟩ => ?_
  obtain ⟨b, vs, h5, h6, h7⟩ := lstOf_sq R1 r1 hd
  have e := bools_rel h7 hb
  subst e
  subst h5
  exact ⟨b, bs, rfl, .inl h6, q g1 _ _ e1 R1 (.bl _)⟩
theorem e_all (o : Good G A T n X W) (hh : T.hot = false) {sc : Scope} (SC : ScR sc X) {x : Str} {a : IE} {a' : Expr} (hx : bltB sc x "all" = true) (ha : PE X a' (tD G A X.K W a)) (hp : plainX a' = true) : PE X (.Call (.Name x p) [a'] [] pos) (tD G A X.K W (.all a)) := by
  obtain ⟨rfl, hg⟩ := blt_of SC hx
  refine (pe_callB (cr_all (o.calm hh)) hg (o.blt _ (by decide)) PyProof.Rows.boot_all (pa_cons ha pa_nil (star_of hp)) (he := star_of hp)).imp fun σ H Q ⟨g, σd, h, R, S, w⟩ => unary o R S w fun x h1 g1 v H1 e1 R1 r1 ⟨ds, bs, hd, hb, q⟩ => ?_
  obtain ⟨b, vs, h5, h6, h7⟩ := lstOf_sq R1 r1 hd
  have e := bools_rel h7 hb
  subst e
  subst h5
  exact ⟨b, bs, rfl, .inl h6, q g1 _ _ e1 R1 (.bl _)⟩
theorem e_lof (o : Good G A T n X W) {sc : Scope} (SC : ScR sc X) {m : Bool} {x : Str} {a : IE} {a' : Expr} (hx : bltB sc x "list" = true) (ha : PE X a' (tD G A X.K W a)) (hp : plainX a' = true) : PE X (.Call (.Name x p) [a'] [] pos) (tD G A X.K W (.lof m a)) := by
  obtain ⟨rfl, hg⟩ := blt_of SC hx
  refine (pe_callTy call_list_of hg (o.blt _ (by decide)) PyProof.Rows.boot_list (pa_cons ha pa_nil (star_of hp)) (he := star_of hp)).imp fun σ H Q ⟨g, σd, h, R, S, w⟩ => unary o R S w fun x h1 g1 v H1 e1 R1 r1 ⟨ds, hd, q⟩ => ?_
  obtain ⟨b, vs, h5, h6, h7⟩ := seqOf_sq R1 r1 hd
  subst h5
  exact ⟨b, vs, rfl, h6, mkL_new R1 e1 h7 q⟩
theorem e_tof (o : Good G A T n X W) {sc : Scope} (SC : ScR sc X) {x : Str} {a : IE} {a' : Expr} (hx : bltB sc x "tuple" = true) (ha : PE X a' (tD G A X.K W a)) (hp : plainX a' = true) : PE X (.Call (.Name x p) [a'] [] pos) (tD G A X.K W (.tof a)) := by
  obtain ⟨rfl, hg⟩ := blt_of SC hx
  refine (pe_callTy call_tuple_of hg (o.blt _ (by decide)) PyProof.Rows.boot_tuple (pa_cons ha pa_nil (star_of hp)) (he := star_of hp)).imp fun σ H Q ⟨g, σd, h, R, S, w⟩ => unary o R S w fun x h1 g1 v H1 e1 R1 r1 ⟨ds, hd, q⟩ => ?_
  obtain ⟨b, vs, h5, h6, h7⟩ := seqOf_sq R1 r1 hd
  subst h5
  refine ⟨b, vs, rfl, ?_⟩
  rcases h6 with h6 | h6
  · refine .inl ⟨h6, fun l hl => ?_⟩
    obtain ⟨e4, R4, r4⟩ := new_tup hl R1 h7
    exact q g1 _ _ (e1.trans e4) R4 r4
  · exact .inr ⟨h6, q g1 _ _ e1 R1 (.tup h6 h7)⟩
/-! ### isinstance -/
theorem kit_all : ∀ p ∈ [("NoneType", []), ("bool", [Ty.bool, .int]), ("int", [.int]), ("str", [.str]), ("list", [.list]), ("tuple", [.tuple]), ("dict", [.dict])], ∀ t ∈ [Ty.int, .bool, .str, .list, .tuple, .dict], kitB p.1 (tyN t) = some (p.2.contains t) := by decide +kernel
theorem ty_all (t : Ty) : t ∈ [Ty.int, .bool, .str, .list, .tuple, .dict] := by cases t <;> decide
theorem tyX_of {K : PySem.W.Frag} {g : Gh} {h : DH} {H : Hp} {d : D} {v : V} {tx : List Ty} (R : HRel K g h H) (r : RelD K g H d v) (e : tyD h d = some tx) : ∃ tn, TyX K H v (.type tn) ∧ ∀ t, kitB tn (tyN t) = some (tx.contains t) := by
  have fin : ∀ tn, (tn, tx) ∈ [("NoneType", []), ("bool", [Ty.bool, .int]), ("int", [.int]), ("str", [.str]), ("list", [.list]), ("tuple", [.tuple]), ("dict", [.dict])] → ∀ t, kitB tn (tyN t) = some (tx.contains t) := fun tn hm t => kit_all (tn, tx) hm t (ty_all t)
  cases r with
  | non => cases e; exact ⟨_, .base .non, fin "NoneType" (by simp)⟩
  | bl b => cases e; exact ⟨_, .base (.bl b), fin "bool" (by simp)⟩
  | int i => cases e; exact ⟨_, .base (.int i), fin "int" (by simp)⟩
  | str s => cases e; exact ⟨_, .base (.str s), fin "str" (by simp)⟩
  | exc _ _ => cases e
  | obj _ _ _ _ => cases e
  | clo _ _ _ => cases e
  | tup hs _ =>
    cases e
    rcases hs with (hs | ⟨ob, hs⟩) | ⟨ob, its, k, h1, h2, _⟩
    · exact ⟨_, .base (.tup hs), fin "tuple" (by simp)⟩
    · exact ⟨_, .fTuple hs, fin "tuple" (by simp)⟩
    · exact ⟨_, .kTuple h1 h2, fin "tuple" (by simp)⟩
  | lst hs _ =>
    cases e
    rcases hs.rd with hs | ⟨ob, hs⟩
    · exact ⟨_, .base (.lst hs), fin "list" (by simp)⟩
    · exact ⟨_, .base (.frz hs), fin "list" (by simp)⟩
  | @ref l a hio =>
    cases hl : h l with
    | none => simp [tyD, hl] at e
    | some ob =>
      obtain ⟨a', h1, h2, h3⟩ := R.obj l _ hl
      rw [hio] at h1
      cases h1
      cases ob with
      | lst ds =>
        simp [tyD, hl] at e
        subst e
        obtain ⟨vs, h4, _⟩ := h3
        exact ⟨_, .base (.lst h4), fin "list" (by simp)⟩
      | ins _ _ _ => simp [tyD, hl] at e
      | dic kvs =>
        simp [tyD, hl] at e
        subst e
        obtain ⟨kv, h4⟩ := h3
        exact ⟨_, .base (.dK h4), fin "dict" (by simp)⟩
theorem boot_ty (t : Ty) : bootBuiltins (tyN t : Str) = some (.type (tyN t)) := by cases t <;> decide +kernel
theorem mem_ty (t : Ty) : (tyN t : Str) ∈ bltNames := by cases t <;> decide
theorem nn_ty (t : Ty) : (tyN t : Str) ≠ "__name__" ∧ ((tyN t : Str) == ("__debug__" : Str)) = false := by cases t <;> decide
theorem pe_ty (o : Good G A T n X W) {sc : Scope} (SC : ScR sc X) {t : Ty} {x : Str} (h1 : (x == (tyN t : Str)) = true) (h2 : glB sc x = true) : PE X (.Name x p) (tC (.ty (tyN t))) := by
  have e := beq_of h1
  subst e
  exact pe_bltn (SC.gl _ h2) (o.blt _ (mem_ty t)) (boot_ty t) rfl (nn_ty t).1 (nn_ty t).2
theorem pa_tys (o : Good G A T n X W) {sc : Scope} (SC : ScR sc X) : ∀ {ts : List Ty} {es : List Expr}, tysB sc ts es = true → PA X es (fun σ H Q => Q (ts.map fun t => V.ty (tyN t)) H)
  | [], [], _ => pa_nil
  | t :: ts, e :: es, h => by
    cases e <;> first
      | (exact Bool.noConfusion h; done)
      | skip
    rename_i x pp
    obtain ⟨h12, h3⟩ := andB (show ((x == (tyN t : Str)) && glB sc x && tysB sc ts es) = true from h)
    obtain ⟨h1, h2⟩ := andB h12
    exact (pa_cons (pe_ty o SC h1 h2) (pa_tys o SC h3) rfl).imp fun σ H Q q => q
  | [], _ :: _, h => by cases h
  | _ :: _, [], h => by cases h
theorem kit_any {K : PySem.W.Frag} {tn : String} {tx : List Ty} (h : ∀ t, kitB tn (tyN t) = some (tx.contains t)) : ∀ ts : List Ty, PySem.W.kitAny K (.type tn) (ts.map fun t => Value.type (tyN t)) = some (ts.any fun t => tx.contains t)
  | [] => kitAny_nil
  | t :: ts => by
    refine kitAny_cons (kit_ty (h t)) (r := (t :: ts).any fun t => tx.contains t) (fun e => ?_) fun e => ?_
    · rw [kit_any h ts, List.any_cons, e, Bool.false_or]
    · rw [List.any_cons, e, Bool.true_or]
theorem clsv_tys : ∀ ts : List Ty, Paired ClsV (ts.map fun t => V.ty (tyN t)) (ts.map fun t => Value.type (tyN t))
  | [] => .nil
  | t :: ts => .cons (.ty _) (clsv_tys ts)
theorem e_isi (o : Good G A T n X W) {sc : Scope} (SC : ScR sc X) {x : Str} {ts : List Ty} {a : IE} {a' t' : Expr} (hx : bltB sc x "isinstance" = true) (ha : PE X a' (tD G A X.K W a)) (hp : plainX a' = true) (ht : tyB sc ts t' = true) : PE X (.Call (.Name x p) [a', t'] [] pos) (tD G A X.K W (.isi a ts)) := by
  obtain ⟨rfl, hg⟩ := blt_of SC hx
  unfold tyB at ht
  split at ht
  · rename_i t x' _
    obtain ⟨h1, h2⟩ := andB ht
    refine (pe_callB call_isi hg (o.blt _ (by decide)) PyProof.Rows.boot_isinstance (pa_cons ha (pa_cons (pe_ty o SC h1 h2) pa_nil rfl) (star_of hp)) (he := star_of hp) (hpl := rfl)).imp fun σ H Q ⟨g, σd, h, R, S, w⟩ => ?_
    refine stepE o.mono R S w fun x h1 g1 v H1 e1 R1 r1 ⟨tx, hk, q⟩ => ?_
    obtain ⟨tn, h3, h4⟩ := tyX_of R1 r1 hk
    have q' := q g1 _ _ e1 R1 (.bl _)
    rw [List.any_cons, List.any_nil, Bool.or_false] at q'
    exact ⟨v, .ty (tyN t), _, _, _, rfl, .ty _, h3, kit_ty (h4 t), q'⟩
  · rename_i es _ _ _
    obtain ⟨h1, h2⟩ := andB ht
    refine (pe_callB call_isiT hg (o.blt _ (by decide)) PyProof.Rows.boot_isinstance (pa_cons ha (pa_cons (pe_tup (pa_tys o SC h1)) pa_nil rfl) (star_of hp)) (he := star_of hp) (hpl := rfl)).imp fun σ H Q ⟨g, σd, h, R, S, w⟩ => ?_
    refine stepE o.mono R S w fun x h1 g1 v H1 e1 R1 r1 ⟨tx, hk, q⟩ => ?_
    refine ⟨?_, fun tp htp => ?_⟩
    · rw [List.length_map, sizeBig]
      exact Nat.le_trans (of_decide_eq_true h2) (by decide)
    · obtain ⟨e2, R2⟩ := new_any (o := .tup (ts.map fun t => V.ty (tyN t))) htp R1
      obtain ⟨tn, h3, h4⟩ := tyX_of R2 (r1.mono e2) hk
      exact ⟨v, tp, _, _, _, _, rfl, upd_same, clsv_tys ts, h3, kit_any h4 ts, q g1 _ _ (e1.trans e2) R2 (.bl _)⟩
  · cases ht
end
end Fb

set_option linter.all false
set_option maxRecDepth 100000
set_option maxHeartbeats 1000000
namespace Fb
open PySem PySem.Spec L2

/-! ### walks -/
structure Wlk (K : PySem.W.Frag) (g0 : Gh) (H0 : Hp) (J : It) (its : Its) : Prop where
  go : ∀ g H h i d, Ext g0 H0 g H → HRel K g h H → its.keep h → its.ds[i]? = some d → J.go i H ∧ ∀ x H', J.yld i H x H' → ∃ g', Ext g H g' H' ∧ HRel K g' h H' ∧ RelD K g' H' d x
  stop : ∀ g H h, Ext g0 H0 g H → HRel K g h H → its.keep h → J.stop its.ds.length H
def tDI (G : Prg) (A : Cl) (K : PySem.W.Frag) (W : WX) (it : IT) : TI := fun σ H R => ∃ g σd h, HRel K g h H ∧ RelS K g H σd σ ∧
  wpI G it σd h (fun its h1 => ∀ g' H1 J, Ext g H g' H1 → HRel K g' h1 H1 → Wlk K g' H1 J its → R J H1) (KX A K g H fun c d H' => W c d σ H')
theorem _root_.L2.PI.imp {X : Cx} {tg e : Expr} {t t' : TI} (h : PI X tg e t) (f : ∀ σ H Q, t' σ H Q → t σ H Q) : PI X tg e t' := ⟨fun pins s σ H Q I w => h.run pins s σ H Q I (f σ H Q w)⟩
section
variable {X : Cx} {tg : Expr}
/-- a list or a tuple -/
def iSeq (K : PySem.W.Frag) (tl : TE) : TI := fun σ H R => tl σ H fun x H1 => ∃ a, x = .ref a ∧ (((∃ xs, SqL K H1 a xs) ∧ R (Itl K a) H1) ∨ ((∃ xs, SqT K H1 a xs) ∧ R (Itt K a) H1))
theorem pi_seq {l : Expr} {tl : TE} (hl : PE X l tl) : PI X tg l (iSeq X.K tl) := by
  refine ⟨fun pins s σ H R I h => ?_⟩
  refine thn (hl.run pins s σ H _ I h) fun v s1 ⟨x, H1, I1, r1, q1⟩ => ?_
  obtain ⟨a, e, q⟩ := q1
  subst e
  cases r1
  rcases q with ⟨⟨xs, hq⟩, q⟩ | ⟨⟨xs, hq⟩, q⟩
  · obtain ⟨its, rv, p, hz⟩ := I1.list hq
    refine wpAny_pyIter_list p.isList ?_
    refine ⟨s1.heap.objs.size, [s1.heap.objs.size], _, _, H1, rfl, I1.kept (t' := s1.toks) fun b o e => Heap.get?_push_of_some _ e, turn_list a _, ⟨_, Heap.get?_push_size _ rfl, rfl, rfl⟩, fun b hb => ?_, q⟩
    have e : b = s1.heap.objs.size := by simpa using hb
    subst e
    exact I1.fpOk (Nat.le_refl _) (I1.hok.fresh (Nat.le_refl _))
  · obtain ⟨its, rv, p, hz⟩ := I1.tuple hq
    refine wpAny_pyIter_tuple (show s1.heap.IsTuple a its.toArray from p) ?_
    refine ⟨s1.heap.objs.size, [s1.heap.objs.size], _, _, H1, rfl, I1.kept (t' := s1.toks) fun b o e => Heap.get?_push_of_some _ e, turn_tuple a _, ⟨_, Heap.get?_push_size _ rfl, rfl, rfl⟩, fun b hb => ?_, q⟩
    have e : b = s1.heap.objs.size := by simpa using hb
    subst e
    exact I1.fpOk (Nat.le_refl _) (I1.hok.fresh (Nat.le_refl _))
end
section
variable {K : PySem.W.Frag} {g0 : Gh} {h0 : DH} {H0 : Hp}
theorem wlk_rel {its : Its} {a : Addr} (hq : ∀ g H h, Ext g0 H0 g H → HRel K g h H → its.keep h → ∃ vs, Rd H a (.lst vs) ∧ RelDs K g H its.ds vs) : Wlk K g0 H0 (Itl K a) its := by
  refine ⟨fun g H h i d e R k hd => ?_, fun g H h e R k => ?_⟩
  · obtain ⟨vs, h1, h2⟩ := hq g H h e R k
    obtain ⟨v, h3, h4⟩ := h2.getD hd
    refine ⟨⟨vs, v, .inl h1, h3⟩, fun x H' y => ?_⟩
    obtain ⟨e1, y⟩ := y
    subst e1
    have := y vs (.inl h1)
    rw [h3] at this
    cases this
    exact ⟨g, .refl _ _, R, h4⟩
  · obtain ⟨vs, h1, h2⟩ := hq g H h e R k
    exact ⟨vs, .inl h1, by rw [h2.length]; exact Nat.le_refl _⟩
theorem wlk_tup {its : Its} {a : Addr} (hq : ∀ g H h, Ext g0 H0 g H → HRel K g h H → its.keep h → ∃ vs, SqT K H a vs ∧ RelDs K g H its.ds vs) : Wlk K g0 H0 (Itt K a) its := by
  refine ⟨fun g H h i d e R k hd => ?_, fun g H h e R k => ?_⟩
  · obtain ⟨vs, h1, h2⟩ := hq g H h e R k
    obtain ⟨v, h3, h4⟩ := h2.getD hd
    refine ⟨⟨vs, v, h1, h3⟩, fun x H' y => ?_⟩
    obtain ⟨e1, y⟩ := y
    subst e1
    have := y vs h1
    rw [h3] at this
    cases this
    exact ⟨g, .refl _ _, R, h4⟩
  · obtain ⟨vs, h1, h2⟩ := hq g H h e R k
    exact ⟨vs, h1, by rw [h2.length]; exact Nat.le_refl _⟩
theorem wlk_seq {x : D} {v : V} {ds : List D} (R0 : HRel K g0 h0 H0) (r : RelD K g0 H0 x v) (e : seqOf h0 x = some ds) :
    ∃ a, v = .ref a ∧ (((∃ xs, SqL K H0 a xs) ∧ Wlk K g0 H0 (Itl K a) ⟨ds, keepOf h0 x⟩) ∨ ((∃ xs, SqT K H0 a xs) ∧ Wlk K g0 H0 (Itt K a) ⟨ds, keepOf h0 x⟩)) := by
  cases r with
  | @tup a vs _ hs r =>
    cases e
    exact ⟨a, rfl, .inr ⟨⟨vs, hs⟩, wlk_tup fun g H h e _ _ => ⟨vs, sqT_mono e.toExt0 hs, r.mono e⟩⟩⟩
  | @lst a vs _ hs r =>
    cases e
    exact ⟨a, rfl, .inl ⟨⟨vs, hs.sq⟩, wlk_rel fun g H h e _ _ => ⟨vs, (sqF_mono e.toExt0 hs).rd, r.mono e⟩⟩⟩
  | @ref l a hio =>
    cases hl : h0 l with
    | none => simp [seqOf, lstOf, hl] at e
    | some o =>
      cases o with
      | lst ds' =>
        simp [seqOf, lstOf, hl] at e
        subst e
        obtain ⟨a', h1, h2, vs, h3, h4⟩ := R0.obj l _ hl
        rw [hio] at h1
        cases h1
        refine ⟨a, rfl, .inl ⟨⟨vs, SqL.of h3⟩, wlk_rel fun g H h e R k => ?_⟩⟩
        have k' : h l = h0 l := k
        rw [hl] at k'
        obtain ⟨a', b1, b2, us, b3, b4⟩ := R.obj l _ k'
        rw [e.io l a hio] at b1
        cases b1
        exact ⟨us, .inl b3, b4⟩
      | ins _ _ _ => simp [seqOf, lstOf, hl] at e
      | dic _ => simp [seqOf, lstOf, hl] at e
  | non => cases e
  | bl b => cases e
  | int i => cases e
  | str s => cases e
  | exc _ _ => cases e
  | obj _ _ _ _ => cases e
  | clo _ _ _ => cases e
theorem wlk_rng (n : Nat) : Wlk K g0 H0 (Itr 0 n) ⟨(List.range n).map fun (i : Nat) => D.int (i : Int), fun _ => True⟩ := by
  refine ⟨fun g H h i d e R k hd => ?_, fun g H h e R k => ?_⟩
  · have hd' : ((List.range n).map fun (i : Nat) => D.int (i : Int))[i]? = some d := hd
    rw [List.getElem?_map] at hd'
    by_cases hi : i < n
    · rw [List.getElem?_range hi] at hd'
      cases hd'
      refine ⟨hi, fun x H' y => ?_⟩
      obtain ⟨e1, e2⟩ := y
      subst e1
      subst e2
      rw [Int.zero_add]
      exact ⟨g, .refl _ _, R, .int _⟩
    · rw [List.getElem?_eq_none (by simpa using hi)] at hd'
      cases hd'
  · show n ≤ ((List.range n).map fun (i : Nat) => D.int (i : Int)).length
    simp
end
section
variable {G : Prg} {A : Cl} {T : Nm} {n : Nat} {X : Cx} {W : WX} {pos p : Pos} {j : Nat} {tg : Expr}
theorem stepI {K : PySem.W.Frag} {g : Gh} {σd : Sg} {h : DH} {H : Hp} {σ : L2.St} {it : IT} {P : Its → DH → Prop} {R' : It → Hp → Prop} (hm : Mono G) (R : HRel K g h H) (S : RelS K g H σd σ) (w : wpI G it σd h P (KX A K g H fun c d H' => W c d σ H'))
    (f : ∀ its h1 g1 H1 J, Ext g H g1 H1 → HRel K g1 h1 H1 → Wlk K g1 H1 J its → P its h1 → R' J H1) : tDI G A K W it σ H R' :=
  ⟨g, σd, h, R, S, wpI_mono hm it (fun its h1 p g1 H1 J e1 R1 r1 => f its h1 g1 H1 J e1 R1 r1 p) (fun _ _ _ z => z) w⟩
theorem i_seq (o : Good G A T n X W) {e : IE} {a : Expr} (h : PE X a (tD G A X.K W e)) : PI X tg a (tDI G A X.K W (.seq e)) :=
  (pi_seq h).imp fun σ H Q ⟨g, σd, h, R, S, w⟩ => stepE o.mono R S w fun x h1 g1 v H1 e1 R1 r1 ⟨ds, hd, q⟩ => by
    obtain ⟨a, h2, h3⟩ := wlk_seq R1 r1 hd
    exact ⟨a, h2, h3.elim (fun z => .inl ⟨z.1, q g1 H1 _ e1 R1 z.2⟩) fun z => .inr ⟨z.1, q g1 H1 _ e1 R1 z.2⟩⟩
theorem i_rng (o : Good G A T n X W) {sc : Scope} (SC : ScR sc X) {x : Str} {e : IE} {a : Expr} (hx : bltB sc x "range" = true) (h : PE X a (tD G A X.K W e)) (hp : plainX a = true) : PI X tg (.Call (.Name x p) [a] [] pos) (tDI G A X.K W (.rng e)) := by
  obtain ⟨rfl, hg⟩ := blt_of SC hx
  refine (pi_range1 hg (o.blt _ (by decide)) (pa_cons h pa_nil (star_of hp)) (star_of hp)).imp fun σ H Q ⟨g, σd, h, R, S, w⟩ => ?_
  refine stepE o.mono R S w fun x h1 g1 v H1 e1 R1 r1 ⟨k, hx, k1, k2, q⟩ => ?_
  subst hx
  cases r1
  exact ⟨k, rfl, k1, k2, q g1 H1 _ e1 R1 (wlk_rng _)⟩
/-! ### targets -/
def gNs : List Nat → TGs
  | [] => gNil
  | i :: is => gCons (gName i) (gNs is)
def gT (K : PySem.W.Frag) : Tg → TG
  | .nm i => gName i
  | .tp is => gTup K is.length (gNs is)
theorem pgs_nms (o : Good G A T n X W) {sc : Scope} (SC : ScR sc X) : ∀ {is : List Nat} {es : List Expr}, nmsB X.N sc is es = true → PGs X es (gNs is) ∧ (assignEach es X.env).length = is.length ∧ (assignEach es X.env).findIdx? (·.1) = none
  | [], [], _ => ⟨pgs_nil, rfl, rfl⟩
  | i :: is, e :: es, h => by
    cases e <;> first
      | (exact Bool.noConfusion h; done)
      | skip
    rename_i x pp
    obtain ⟨h12, h3⟩ := andB (show (decide (X.N[i]? = some x) && locB sc x && nmsB X.N sc is es) = true from h)
    obtain ⟨h1, h2⟩ := andB h12
    obtain ⟨q1, q2, q3⟩ := pgs_nms o SC h3
    refine ⟨pgs_cons (pg_name o.nd (of_decide_eq_true h1) (SC.loc _ h2).1 (SC.loc _ h2).2) q1 rfl, ?_, ?_⟩
    · show ((false, assign (.Name x pp) X.env) :: assignEach es X.env).length = is.length + 1
      rw [List.length_cons, q2]
    · show ((false, assign (.Name x pp) X.env) :: assignEach es X.env).findIdx? (·.1) = none
      rw [List.findIdx?_cons]
      simp [q3]
  | [], _ :: _, h => by cases h
  | _ :: _, [], h => by cases h
theorem pg_tg (o : Good G A T n X W) (hh : T.hot = false) {sc : Scope} (SC : ScR sc X) {t : Tg} {a : Expr} (h : tgB X.N sc t a = true) : PG X a (gT X.K t) := by
  cases t with
  | nm i =>
    cases a <;> first
      | (exact Bool.noConfusion h; done)
      | skip
    rename_i x pp
    obtain ⟨h1, h2⟩ := andB (show (decide (X.N[i]? = some x) && locB sc x) = true from h)
    exact pg_name o.nd (of_decide_eq_true h1) (SC.loc _ h2).1 (SC.loc _ h2).2
  | tp is =>
    cases a <;> first
      | (exact Bool.noConfusion h; done)
      | skip
    rename_i es k pp
    obtain ⟨q1, q2, q3⟩ := pgs_nms o SC (show nmsB X.N sc is es = true from h)
    exact pg_tup (o.calm hh) q1 q2 q3
theorem RelS.set {K : PySem.W.Frag} {g : Gh} {H : Hp} {σd : Sg} {σ : L2.St} {d : D} {v : V} (S : RelS K g H σd σ) (r : RelD K g H d v) (i : Nat) : RelS K g H (σd.set i (some d)) (σ.set i (some v)) := by
  refine ⟨by rw [List.length_set, List.length_set]; exact S.1, fun k e he => ?_⟩
  by_cases hk : i = k
  · subst hk
    by_cases hl : i < σd.length
    · rw [List.getElem?_set_self hl] at he
      cases he
      rw [List.getElem?_set_self (by rw [← S.1]; exact hl)]
      exact ⟨v, rfl, r⟩
    · rw [List.getElem?_eq_none (by simpa using hl)] at he
      cases he
  · rw [List.getElem?_set_ne hk] at he
    rw [List.getElem?_set_ne hk]
    exact S.2 k e he
/-- the slots outside stay -/
def Out (is : List Nat) {α : Type} (σ σ' : List α) : Prop := σ'.length = σ.length ∧ ∀ k : Nat, k ∉ is → σ'[k]? = σ[k]?
theorem Out.refl {is : List Nat} {α : Type} (σ : List α) : Out is σ σ := ⟨rfl, fun _ _ => rfl⟩
theorem gNs_ok {K : PySem.W.Frag} {g : Gh} {H : Hp} : ∀ {is : List Nat} {ds : List D} {vs : List V} {σd σd' : Sg} {σ : L2.St} {Q : L2.St → Hp → Prop}, RelS K g H σd σ → RelDs K g H ds vs → setN is ds σd = some σd' → (∀ σ', RelS K g H σd' σ' → Out is σ σ' → Q σ' H) → gNs is vs σ H Q
  | [], ds, vs, _, _, _, _, S, r, e, q => by
    cases ds with
    | nil => cases r; cases e; exact ⟨rfl, q _ S (.refl _)⟩
    | cons _ _ => cases e
  | i :: is, ds, vs, _, _, σ, _, S, r, e, q => by
    cases ds with
    | nil => cases e
    | cons d ds =>
      cases r with
      | @cons _ v _ _ r1 r2 =>
        refine ⟨_, _, rfl, gNs_ok (S.set r1 i) r2 e fun σ' S' o' => q σ' S' ⟨o'.1.trans (List.length_set ..), fun k hk => ?_⟩⟩
        have h1 : k ≠ i := fun z => hk (by rw [z]; exact List.mem_cons_self)
        rw [o'.2 k fun z => hk (List.mem_cons_of_mem _ z)]
        exact List.getElem?_set_ne (Ne.symm h1)
theorem gT_ok {K : PySem.W.Frag} {g : Gh} {H : Hp} {t : Tg} {d : D} {v : V} {σd : Sg} {σ : L2.St} {P : Sg → Prop} {Q : L2.St → Hp → Prop} (S : RelS K g H σd σ) (r : RelD K g H d v) (w : asgN t d σd P) (q : ∀ σd' σ', RelS K g H σd' σ' → P σd' → Out (tgIx t) σ σ' → Q σ' H) : gT K t v σ H Q := by
  cases t with
  | nm i =>
    refine q _ _ (S.set r i) w ⟨List.length_set .., fun k hk => ?_⟩
    have h1 : k ≠ i := fun z => hk (by rw [z]; exact List.mem_cons_self)
    exact List.getElem?_set_ne (Ne.symm h1)
  | tp is =>
    obtain ⟨ds, σd', h1, h2, h3⟩ := w
    subst h1
    cases r with
    | @tup a vs _ hs rs =>
      have hl : ∀ {is : List Nat} {ds : List D} {σd σd' : Sg}, setN is ds σd = some σd' → ds.length = is.length := by
        intro is
        induction is with
        | nil => intro ds σd σd' e; cases ds with | nil => rfl | cons _ _ => cases e
        | cons i is ih => intro ds σd σd' e; cases ds with | nil => cases e | cons d ds => rw [List.length_cons, List.length_cons, ih e]
      exact ⟨a, vs, rfl, hs, by rw [← rs.length]; exact hl h2, gNs_ok S rs h2 fun σ' S' o' => q _ _ S' h3 o'⟩
/-- slots that are set anyway do not matter -/
theorem setN_out : ∀ {is : List Nat} {ds : List D} {σ σ' τ : Sg}, Out is σ σ' → setN is ds σ = some τ → setN is ds σ' = some τ
  | [], ds, σ, σ', τ, o', e => by
    cases ds with
    | nil =>
      cases e
      have : σ' = σ := List.ext_getElem? fun k => o'.2 k (by simp)
      rw [this]
      rfl
    | cons _ _ => cases e
  | i :: is, ds, σ, σ', τ, o', e => by
    cases ds with
    | nil => cases e
    | cons d ds =>
      refine setN_out (σ := σ.set i (some d)) (σ' := σ'.set i (some d)) ⟨by rw [List.length_set, List.length_set]; exact o'.1, fun k hk => ?_⟩ e
      by_cases hi : i = k
      · subst hi
        by_cases hl : i < σ.length
        · rw [List.getElem?_set_self hl, List.getElem?_set_self (by rw [o'.1]; exact hl)]
        · rw [List.getElem?_eq_none (l := σ'.set i (some d)) (by rw [List.length_set, o'.1]; omega), List.getElem?_eq_none (l := σ.set i (some d)) (by rw [List.length_set]; omega)]
      · rw [List.getElem?_set_ne hi, List.getElem?_set_ne hi]
        exact o'.2 k fun z => (List.mem_cons.mp z).elim (fun z => hi z.symm) hk
theorem asgN_out {t : Tg} {d : D} {σ σ' : Sg} {P : Sg → Prop} (o' : Out (tgIx t) σ σ') (w : asgN t d σ P) : asgN t d σ' P := by
  cases t with
  | nm i =>
    have : σ'.set i (some d) = σ.set i (some d) := List.ext_getElem? fun k => by
      by_cases hi : i = k
      · subst hi
        by_cases hl : i < σ.length
        · rw [List.getElem?_set_self hl, List.getElem?_set_self (by rw [o'.1]; exact hl)]
        · rw [List.getElem?_eq_none (l := σ'.set i (some d)) (by rw [List.length_set, o'.1]; omega), List.getElem?_eq_none (l := σ.set i (some d)) (by rw [List.length_set]; omega)]
      · rw [List.getElem?_set_ne hi, List.getElem?_set_ne hi]
        exact o'.2 k fun z => hi (by simpa [tgIx] using z : k = i).symm
    show P (σ'.set i (some d))
    rw [this]
    exact w
  | tp is =>
    obtain ⟨ds, τ, h1, h2, h3⟩ := w
    exact ⟨ds, τ, h1, setN_out o' h2, h3⟩
theorem wipe_get {σ : L2.St} : ∀ {vs : List Nat} {k : Nat}, (wipe σ vs)[k]? = if k ∈ vs ∧ k < σ.length then some none else σ[k]?
  | [], k => by simp [wipe]
  | v :: vs, k => by
    show ((wipe σ vs).set v none)[k]? = _
    by_cases hv : v = k
    · subst hv
      by_cases hl : v < σ.length
      · rw [List.getElem?_set_self (by rw [wipe_length]; exact hl), if_pos ⟨List.mem_cons_self, hl⟩]
      · rw [List.getElem?_eq_none (by simpa [wipe_length] using hl), if_neg fun z => hl z.2, List.getElem?_eq_none (by simpa using hl)]
    · rw [List.getElem?_set_ne hv, wipe_get]
      have : (k ∈ v :: vs) ↔ k ∈ vs := ⟨fun z => (List.mem_cons.mp z).elim (fun z => absurd z.symm hv) id, fun z => List.mem_cons_of_mem _ z⟩
      simp only [this]
theorem wipe_out {vs : List Nat} {σ σ' : L2.St} (o' : Out vs (wipe σ vs) σ') : wipe σ' vs = wipe σ vs := by
  refine List.ext_getElem? fun k => ?_
  rw [wipe_get]
  have hl : σ'.length = σ.length := o'.1.trans (wipe_length _ _)
  by_cases hk : k ∈ vs
  · rw [wipe_get]
    by_cases h2 : k < σ.length
    · rw [if_pos ⟨hk, by rw [hl]; exact h2⟩, if_pos ⟨hk, h2⟩]
    · rw [if_neg fun z => h2 (by rw [← hl]; exact z.2), if_neg fun z => h2 z.2, List.getElem?_eq_none (by rw [hl]; omega), List.getElem?_eq_none (by omega)]
  · rw [if_neg fun z => hk z.1]
    exact o'.2 k hk
end
end Fb

set_option linter.all false
set_option maxRecDepth 100000
set_option maxHeartbeats 1000000
namespace Fb
open PySem PySem.Spec L2

section
variable {G : Prg} {A : Cl} {T : Nm} {n : Nat} {X : Cx} {W : WX} {pos p : Pos} {j : Nat} {tg : Expr}
/-! ### arguments -/
theorem a_nil : PA X [] (tDL G A X.K W .nil) := pa_nil.imp fun σ H Q ⟨g, σd, h, R, S, w⟩ => w g _ _ (.refl _ _) R .nil
theorem a_cons (o : Good G A T n X W) {e : IE} {r : IL} {a : Expr} {as : List Expr} (ha : PE X a (tD G A X.K W e)) (hr : PA X as (tDL G A X.K W r)) (hp : plainX a = true) : PA X (a :: as) (tDL G A X.K W (.cons e r)) :=
  (pa_cons ha hr (star_of hp)).imp fun σ H Q ⟨g, σd, h, R, S, w⟩ => stepE o.mono R S w fun x h1 g1 v H1 e1 R1 r1 w1 =>
    stepL o.mono R1 (S.mono e1) (upL o.mono e1 w1) fun ys h2 g2 us H2 e2 R2 r2 q => q g2 _ _ (e1.trans e2) R2 (.cons (r1.mono e2) r2)
theorem k_nil : PK X [] (tDL G A X.K W .nil) := pk_nil.imp fun σ H Q ⟨g, σd, h, R, S, w⟩ => w g _ _ (.refl _ _) R .nil
theorem k_cons (o : Good G A T n X W) {nm : Option Str} {kp : Pos} {e : IE} {r : IL} {a : Expr} {as : List Keyword} (ha : PE X a (tD G A X.K W e)) (hr : PK X as (tDL G A X.K W r)) : PK X (⟨nm, a, kp⟩ :: as) (tDL G A X.K W (.cons e r)) :=
  (pk_cons ha hr).imp fun σ H Q ⟨g, σd, h, R, S, w⟩ => stepE o.mono R S w fun x h1 g1 v H1 e1 R1 r1 w1 =>
    stepL o.mono R1 (S.mono e1) (upL o.mono e1 w1) fun ys h2 g2 us H2 e2 R2 r2 q => q g2 _ _ (e1.trans e2) R2 (.cons (r1.mono e2) r2)
theorem star_any {env : Env} : ∀ {as : List Expr}, (∀ a ∈ as, plainX a = true) → (backTo pos (starEach as env)).any (·.1) = false
  | [], _ => rfl
  | a :: as, h => by
    rw [star_of (h a List.mem_cons_self)]
    show (false || (backTo pos (starEach as env)).any (·.1)) = false
    rw [star_any fun b hb => h b (List.mem_cons_of_mem _ hb)]
    rfl
theorem kw_facts {env : Env} {ps : List Str} : ∀ {ks : List Nat} {kws : List Keyword}, kwB ps ks kws = true → (backToKw pos (keywordEach kws env)).all (·.1.isSome) = true ∧ (backToKw pos (keywordEach kws env)).filterMap (·.1) = ks.filterMap (fun k => ps[k]?) ∧ (backToKw pos (keywordEach kws env)).any (·.1.isNone) = false ∧
    (ks.filterMap fun k => ps[k]?).length = ks.length
  | [], [], _ => ⟨rfl, rfl, rfl, rfl⟩
  | k :: ks, ⟨some x, e, kp⟩ :: r, h => by
    obtain ⟨h1, h2⟩ := andB (show (decide (ps[k]? = some x) && kwB ps ks r) = true from h)
    obtain ⟨q1, q2, q3, q4⟩ := kw_facts (env := env) h2
    have e := of_decide_eq_true h1
    refine ⟨?_, ?_, ?_, ?_⟩
    · show (true && (backToKw pos (keywordEach r env)).all (·.1.isSome)) = true
      rw [q1]; rfl
    · show x :: (backToKw pos (keywordEach r env)).filterMap (·.1) = _
      rw [q2, List.filterMap_cons, e]
    · show (false || (backToKw pos (keywordEach r env)).any (·.1.isNone)) = false
      rw [q3]; rfl
    · rw [List.filterMap_cons, e]
      show (ks.filterMap fun k => ps[k]?).length + 1 = ks.length + 1
      rw [q4]
  | [], _ :: _, h => by cases h
  | _ :: _, [], h => by cases h
  | _ :: _, ⟨none, _, _⟩ :: _, h => by cases h
/-! ### a call -/
theorem e_call (o : Good G A T n X W) (hh : T.hot = false) {k : Nat} {as kws : IL} {ks : List Nat} {nm : Str} {ps : List Str} {shs : List (Nat × List Nat)} {as' : List Expr} {kws' : List Keyword} (hk : T.lv k < n) (hT : T.fns[k]? = some (nm, ps, shs)) (hg : Gl X nm) (hd : dbgB nm = true)
    (ha : PA X as' (tDL G A X.K W as)) (hp : ∀ a ∈ as', plainX a = true) (hla : as.length = as'.length) (hkw : PK X kws' (tDL G A X.K W kws)) (hlk : kws.length = ks.length) (hkb : kwB ps ks kws' = true) (hsh : (as'.length, ks) ∈ shs) :
    PE X (.Call (.Name nm p) as' kws' pos) (tD G A X.K W (.call k as ks kws)) := by
  obtain ⟨f, fd, hm, kp, F, hS⟩ := o.fns k nm ps shs hk hT
  obtain ⟨gu, gV, kb, hrel⟩ := hS _ hsh
  obtain ⟨q1, q2, q3, q4⟩ := kw_facts (pos := pos) (env := X.env) hkb
  have hr : Room (4 * T.lv k + 3) X.A := (o.room hh).mono (by omega)
  have fin : ∀ σ H Q, tD G A X.K W (.call k as ks kws) σ H Q → tCallG as'.length (ks.filterMap fun k => ps[k]?).length (spD G A X.K k) gV (WE W) (tDL G A X.K W as) (tDL G A X.K W kws) σ H Q := by
    rintro σ H Q ⟨g, σd, h, R, S, w⟩
    refine stepL o.mono R S (wpL_len o.mono as w) fun ds h1 g1 vs H1 e1 R1 r1 w1 => ?_
    refine stepL o.mono R1 (S.mono e1) (upL o.mono e1 (wpL_len o.mono kws w1.2)) fun es h2 g2 us H2 e2 R2 r2 q => ?_
    obtain ⟨hl, args, hb, q⟩ := q
    have r1' := r1.mono e2
    have e12 := e1.trans e2
    obtain ⟨ra, la⟩ := hrel g2 H2 ds es args vs us r1' r2 (by rw [w1.1, hla]) (by rw [hl, hlk]) hb
    refine ⟨by rw [← r1'.length, w1.1, hla], by rw [← r2.length, hl, hlk, q4], g2, args, h2, R2, ra, la, ?_⟩
    exact o.mono.sp _ _ _ _ _ _ _ (KQ.up e12) (KX.up e12) q
  have hpl : ((backTo pos (starEach as' X.env)).any (·.1) || (backToKw pos (keywordEach kws' X.env)).any (·.1.isNone)) = false := by
    rw [star_any hp, q3]; rfl
  cases as' with
  | nil =>
    refine (pe_callG0 F hr hg hm kp kb (fun σ => passAt o.tk σ) hkw q1 q2 (dbg_of hd).1 hpl).imp fun σ H Q w => ?_
    obtain ⟨g, σd, h, R, S, w⟩ := fin σ H Q w
    cases as with
    | nil => exact w g _ _ (.refl _ _) R .nil
    | cons _ _ => exact absurd hla (by simp [IL.length])
  | cons a as'' => exact (pe_callG F hr hg hm kp kb (fun σ => passAt o.tk σ) ha hkw q1 q2 (dbg_of hd).1 (star_of (hp a List.mem_cons_self)) hpl).imp fin
/-! ### comprehensions -/
def tIfs (G : Prg) (A : Cl) (K : PySem.W.Frag) (ifs : IL) : TT := fun σ H Q => ∃ g σd h, HRel K g h H ∧ RelS K g H σd σ ∧ wpIfs G ifs σd h (fun b h1 => ∀ g' H1, Ext g H g' H1 → HRel K g' h1 H1 → Q b H1)
theorem KXF {K : PySem.W.Frag} {g : Gh} {H : Hp} : ∀ c fs h, (fun _ _ _ => False : XD) c fs h → KX A K g H (fun _ _ _ => False) c fs h := fun _ _ _ z => z.elim
theorem RelS.wipe {K : PySem.W.Frag} {g : Gh} {H : Hp} {σd : Sg} {σ : L2.St} (S : RelS K g H σd σ) : ∀ vs : List Nat, RelS K g H (vs.foldr (fun v s => s.set v none) σd) (wipe σ vs)
  | [] => S
  | v :: vs => by
    have S' := RelS.wipe S vs
    refine ⟨?_, fun k e he => ?_⟩
    · show ((vs.foldr (fun v s => s.set v none) σd).set v none).length = ((L2.wipe σ vs).set v none).length
      rw [List.length_set, List.length_set]
      exact S'.1
    · have he : ((vs.foldr (fun v s => s.set v none) σd).set v none)[k]? = some (some e) := he
      show ∃ u, ((L2.wipe σ vs).set v none)[k]? = some (some u) ∧ _
      by_cases hk : v = k
      · subst hk
        by_cases hl : v < (vs.foldr (fun v s => s.set v none) σd).length
        · rw [List.getElem?_set_self hl] at he; cases he
        · rw [List.getElem?_eq_none (by simpa using hl)] at he; cases he
      · rw [List.getElem?_set_ne hk] at he
        rw [List.getElem?_set_ne hk]
        exact S'.2 k e he
theorem wipe_outD (σd : Sg) : ∀ vs : List Nat, Out vs σd (vs.foldr (fun v s => s.set v none) σd)
  | [] => .refl _
  | v :: vs => by
    have o' := wipe_outD σd vs
    refine ⟨(List.length_set ..).trans o'.1, fun k hk => ?_⟩
    show ((vs.foldr (fun v s => s.set v none) σd).set v none)[k]? = _
    rw [List.getElem?_set_ne fun z => hk (by rw [z]; exact List.mem_cons_self)]
    exact o'.2 k fun z => hk (List.mem_cons_of_mem _ z)
theorem wpE_F {K : PySem.W.Frag} {e : IE} {σ : Sg} {h : DH} {Q : QD} {g : Gh} {H : Hp} {σ2 : L2.St} (hm : Mono G) (w : wpE G e σ h Q (fun _ _ _ => False)) : wpE G e σ h Q (KX A K g H fun c d H' => (fun _ _ _ _ => False : WX) c d σ2 H') :=
  wpE_mono hm e (fun _ _ z => z) (fun _ _ _ z => z.elim) w
theorem own_of {N : List Str} {sc : Scope} {t : Tg} {a : Expr} (h : tgB N sc t a = true) : (ownOf N t).map (·.2) = tgIx t := by
  have key : ∀ {is : List Nat} {es : List Expr}, nmsB N sc is es = true → (is.filterMap fun i => (N[i]?).map fun x => (x, i)).map (·.2) = is := by
    intro is
    induction is with
    | nil => intro es _; rfl
    | cons i is ih =>
      intro es h
      cases es with
      | nil => cases h
      | cons e es =>
        cases e <;> first
          | (exact Bool.noConfusion h; done)
          | skip
        rename_i x pp
        obtain ⟨h12, h3⟩ := andB (show (decide (N[i]? = some x) && locB sc x && nmsB N sc is es) = true from h)
        have e := of_decide_eq_true (andB h12).1
        rw [List.filterMap_cons, e]
        show i :: (is.filterMap fun i => (N[i]?).map fun x => (x, i)).map (·.2) = i :: is
        rw [ih h3]
  cases t with
  | nm i =>
    cases a <;> first
      | (exact Bool.noConfusion h; done)
      | skip
    rename_i x pp
    have e := of_decide_eq_true (andB (show (decide (N[i]? = some x) && locB sc x) = true from h)).1
    show (List.filterMap (fun i => (N[i]?).map fun x => (x, i)) [i]).map (·.2) = [i]
    rw [List.filterMap_cons, e]
    rfl
  | tp is =>
    cases a <;> first
      | (exact Bool.noConfusion h; done)
      | skip
    exact key h
theorem comp_read (o : Good G A T n X W) {m : Bool} {t : Tg} {it : IT} {ifs : IL} {elt : IE} : ∀ σ H Q, tD G A X.K W (.comp m t it ifs elt) σ H Q → tLc (tDI G A X.K W it) (gT X.K t) (tIfs G A X.K ifs) (tD G A X.K (fun _ _ _ _ => False) elt) (tgIx t) σ H Q := by
  rintro σ H Q ⟨g, σd, h, R, S, w⟩
  refine stepI o.mono R S w fun its h1 g1 H1 J e1 R1 wk q => ?_
  obtain ⟨hlen, w1⟩ := q
  intro Dn hD
  obtain ⟨e2, R2⟩ := new_any (o := .lst []) hD R1
  have lo1 := R1.loose hD
  have S1 := S.mono e1
  generalize hst : (fun (d : D) (h2 : DH) (K : Option D → DH → Prop) => asgN t d σd fun σ1 => wpIfs G ifs σ1 h2 fun b h3 => if b = true then wpE G elt σ1 h3 (fun y h4 => K (some y) h4) (fun _ _ _ => False) else K none h3) = step at w1
  have body : ∀ (i : Nat) (H' : Hp), (∃ g' h' accV accD, Ext g1 H1 g' H' ∧ HRel X.K g' h' H' ∧ Loose g' Dn ∧ H' Dn = some (.lst accV) ∧ RelDs X.K g' H' accD accV ∧ accD.length ≤ i ∧ compL step its.keep (its.ds.drop i) h' (fun tail h2 => mkL m (accD ++ tail) h2 (KQ X.K g H Q))) → True := fun _ _ _ => trivial
  let Pv : Nat → Hp → Prop := fun i H' => ∃ g' h' accV accD, Ext g1 H1 g' H' ∧ HRel X.K g' h' H' ∧ Loose g' Dn ∧ H' Dn = some (.lst accV) ∧ RelDs X.K g' H' accD accV ∧ accD.length ≤ i ∧ compL step its.keep (its.ds.drop i) h' (fun tail h2 => mkL m (accD ++ tail) h2 (KQ X.K g H Q))
  refine ⟨fun i k H' => k = its.ds.length - i ∧ i ≤ its.ds.length ∧ Pv i H', ⟨its.ds.length, by simp, Nat.zero_le _, g1, h1, [], [], e2, R2, lo1, upd_same, .nil, Nat.le_refl _, ?_⟩, ?_⟩
  · rw [List.drop_zero]
    exact w1
  rintro i k H' ⟨rfl, hi, g', h', accV, accD, eP, RP, loP, hDn, rP, hacc, wP⟩
  by_cases hlt : i < its.ds.length
  · obtain ⟨d, hd⟩ : ∃ d, its.ds[i]? = some d := ⟨_, List.getElem?_eq_getElem hlt⟩
    have hdr : its.ds.drop i = d :: its.ds.drop (i + 1) := by
      rw [List.drop_eq_getElem_cons hlt]
      rw [List.getElem?_eq_getElem hlt] at hd
      rw [Option.some.inj hd]
    rw [hdr] at wP
    obtain ⟨hkeep, wP⟩ := wP
    obtain ⟨eO, RO⟩ := own_in loP hDn RP
    obtain ⟨hgo, hy⟩ := wk.go _ H' h' i d (eP.trans eO) RO hkeep hd
    refine .inr ⟨hgo, Pv (i + 1), fun H'' p => ⟨_, by omega, rfl, hlt, p⟩, fun x H'' y => ?_⟩
    obtain ⟨gy, ey, Ry, ry⟩ := hy x H'' y
    have SY : RelS X.K gy H'' ((tgIx t).foldr (fun v s => s.set v none) σd) (wipe σ (tgIx t)) := RelS.wipe ((S1.mono (eP.trans eO)).mono ey) _
    rw [← hst] at wP
    refine gT_ok SY ry (asgN_out (wipe_outD σd (tgIx t)) wP) fun σd1 σ2 S2 p2 out2 => ⟨wipe_out out2, ?_⟩
    refine ⟨gy, σd1, h', Ry, S2, wpIfs_mono o.mono ifs (fun b h3 p3 g3 H3 e3 R3 => ?_) p2⟩
    cases b with
    | true =>
      rw [if_pos rfl] at p3 ⊢
      refine stepE o.mono R3 (S2.mono e3) (wpE_F (σ2 := σ2) o.mono p3) fun yv h4 g4 v H4 e4 R4 r4 k4 => ?_
      obtain ⟨z1, z2, z3, z4, z5⟩ := own_out loP ((ey.trans e3).trans e4) R4
      refine ⟨accV, z1.trans hDn, ?_, ?_⟩
      · rw [← rP.length, sizeBig]
        exact Nat.lt_of_le_of_lt hacc (Nat.lt_of_lt_of_le hlt hlen)
      · have h4D : H4 Dn = some (.lst accV) := z1.trans hDn
        obtain ⟨e5, R5⟩ := set_loose (o := .lst (accV ++ [v])) z4 (fun xs z => by rw [h4D] at z; cases z) (fun _ _ z => by rw [h4D] at z; cases z) (fun _ z => by rw [h4D] at z; cases z) (fun _ z => by rw [h4D] at z; cases z) (fun _ z => by cases z) z3
        refine ⟨_, h4, accV ++ [v], accD ++ [yv], (eP.trans z2).trans e5, R5, z4, upd_same, ((rP.mono z2).mono e5).append (.cons ((r4.mono0 z5).mono e5) .nil), by rw [List.length_append]; exact Nat.succ_le_succ hacc, ?_⟩
        rw [← hst]
        refine (compL_mono ?_ (fun acc h2 z => ?_) k4)
        · intro d h2 K K' hK w
          refine asgN_mono (fun σ1 w => ?_) w
          refine wpIfs_mono o.mono ifs (fun b h3 w => ?_) w
          cases b with
          | true => rw [if_pos rfl] at w ⊢; exact wpE_mono o.mono elt (fun _ _ z => hK _ _ z) (fun _ _ _ z => z) w
          | false => rw [if_neg (by decide)] at w ⊢; exact hK _ _ w
        · have : accD ++ ((some yv).toList ++ acc) = accD ++ [yv] ++ acc := by simp
          rw [← this]
          exact z
    | false =>
      rw [if_neg (by decide)] at p3 ⊢
      obtain ⟨z1, z2, z3, z4, z5⟩ := own_out loP (ey.trans e3) R3
      refine ⟨_, h3, accV, accD, eP.trans z2, z3, z4, z1.trans hDn, rP.mono z2, Nat.le_succ_of_le hacc, ?_⟩
      rw [← hst]
      exact p3
  · have e : i = its.ds.length := by omega
    subst e
    rw [List.drop_length] at wP
    obtain ⟨hkeep, wP⟩ := wP
    rw [List.append_nil] at wP
    refine .inl ⟨wk.stop g' H' h' eP RP hkeep, ?_⟩
    unfold mkL at wP
    cases m with
    | true =>
      obtain ⟨g5, l, hl, e5, R5, r5⟩ := adopt_mut loP hDn RP rP
      exact (show ∀ l, h' l = none → _ from wP) l hl g5 _ _ ((e1.trans eP).trans e5) R5 r5
    | false =>
      obtain ⟨g5, e5, R5, r5⟩ := adopt_frz loP hDn RP rP
      exact (show KQ X.K g H Q (.lst accD) h' from wP) g5 _ _ ((e1.trans eP).trans e5) R5 r5
end
end Fb

set_option linter.all false
set_option maxRecDepth 100000
set_option maxHeartbeats 1000000
namespace Fb
open PySem PySem.Spec PyProof.Rows L2
section
variable {G : Prg} {A : Cl} {T : Nm} {n : Nat} {X : Cx} {W : WX} {pos p : Pos} {j : Nat}
theorem zip_look {K : PySem.W.Frag} {g : Gh} {H : Hp} {f : Str} {y : D} : ∀ (ns : List Str) {fs : List D} {vs : List V}, RelDs K g H fs vs → (ns.zip fs).lookup f = some y → ∃ v, (ns.zip vs).lookup f = some v ∧ RelD K g H y v ∧ f ∈ ns
  | [], _, _, _, e => by cases e
  | _ :: _, _, _, .nil, e => by cases e
  | m :: ns, _, _, .cons r t, e => by
    simp only [List.zip_cons_cons, List.lookup] at e ⊢
    cases hb : f == m with
    | true =>
      rw [hb] at e
      cases e
      exact ⟨_, rfl, r, by rw [beq_iff_eq.mp hb]; exact List.mem_cons_self⟩
    | false =>
      rw [hb] at e
      obtain ⟨v, h1, h2, h3⟩ := zip_look ns t e
      exact ⟨v, h1, h2, List.mem_cons_of_mem _ h3⟩
theorem e_xfld (o : Good G A T n X W) (hot : T.hot = true) {a : IE} {a' : Expr} {f : Str} (ha : PE X a' (tD G A X.K W a)) (hb : attributeBase a' f X.env (eval a' X.env) = eval a' X.env) : PE X (.Attribute a' f pos) (tD G A X.K W (.xfld a f)) := by
  refine ⟨fun pins s σ H Q I hw => ?_⟩
  obtain ⟨g, σd, h, R, S, w⟩ := hw
  have q : tD G A X.K W a σ H (fun v H1 => ∃ g1 h1 p d c ns fs y, Ext g H g1 H1 ∧ HRel X.K g1 h1 H1 ∧ RelD X.K g1 H1 (.exc p d c ns fs) v ∧ (G.exc p d c ∧ ns = G.cfld c) ∧ (ns.zip fs).lookup f = some y ∧ KQ X.K g H Q y h1) :=
    stepE o.mono R S w fun dd h1 g1 v H1 e1 R1 r1 ⟨p, d, c, ns, fs, y, e, x, l, qq⟩ => by
      subst e
      exact ⟨g1, h1, p, d, c, ns, fs, y, e1, R1, r1, x, l, qq⟩
  refine attr_of hb (thn (ha.run pins s σ H _ I q) fun u s1 hh => ?_)
  obtain ⟨v, H1, I1, rv, g1, h1, p, d, c, ns, fs, y, e1, R1, r1, ⟨x, ens⟩, l, qq⟩ := hh
  subst ens
  cases r1 with
  | exc hx rs =>
    rename_i vs
    have eu : u = Value.ref p := rv
    subst eu
    obtain ⟨oe, C, hm, hz, ⟨dt, hd⟩, hA⟩ := o.exs hot p d c x
    obtain ⟨XC, hno⟩ := o.xf c C hA
    obtain ⟨v, l2, ry, hfn⟩ := zip_look _ rs l
    rcases hx with ⟨e2, e3⟩ | ⟨dd, e2, hfz, hdd, hlen⟩
    · subst e3
      have z : (List.zip (G.cfld c) ([] : List D)).lookup f = some y := l
      rw [List.zip_nil_right] at z
      cases z
    · subst e2
      have pin := (I1.pin (p, oe) (List.mem_append_left _ hm)).1
      have ox : ObjOk X.prog X.w H1 s1.heap dd (.xd ((G.cfld c).zip vs)) := I1.hok dd _ hdd
      obtain ⟨m, ns1, rel⟩ := ox
      obtain ⟨od, hod, look⟩ := lookIn_ns ns1
      obtain ⟨uv, hu, ru⟩ := RelO.some_of (v := v) (o := m f) (by rw [← l2]; exact rel f)
      have inst : PySem.W.InstAt s1.heap p oe C (some od) := ⟨pin, hz.1, (by unfold PySem.W.notCls; rw [hd] <;> rfl), by rw [hz.2]; exact hod⟩
      refine HandSPX.exc_get I1.kIn inst XC.ga XC.gg XC.exC (PySem.W.findObj_own XC.hdC (hno f hfn) rfl (by rw [look, hu])) (handed_of ru) ?_
      exact ⟨v, H1, I1.tok _, ru, qq g1 v H1 e1 R1 ry⟩
end
end Fb

set_option linter.all false
set_option maxRecDepth 100000
set_option maxHeartbeats 1000000
namespace Fb
open PySem PySem.Spec PyProof.Rows L2
/-! ### try with many clauses, each with or without a name -/
/-- the ends of a clause that bears the name of slot k -/
def endsAs (k : Nat) (D : Ends) : Ends := { nx := fun z H => D.nx (z.set k none) H, rt := D.rt, bk := fun z H => D.bk (z.set k none) H, ct := fun z H => D.ct (z.set k none) H }
abbrev Suite := Addr → Value → Option Addr → TS
def wMix (K : PySem.W.Frag) (Wo : WX) (D : Ends) : List (Value × Option Nat × Suite) → WX
  | [] => Wo
  | (c, i, ts) :: r => fun cls d z H => ∃ b, PySem.W.exmOne K cls c = some b ∧ (b = true → ∀ a, H a = none → match i with
      | none => ts a cls d D z H
      | some k => ts a cls d (endsAs k D) (z.set k (some (.ref a))) H) ∧ (b = false → wMix K Wo D r cls d z H)
/-- the clause's name and its slot -/
def NmOk (X : Cx) : Option Nat → Option Str → Prop
  | none, none => True
  | some k, some y => X.N[k]? = some y ∧ X.env.kindOf y = some .local
  | _, _ => False
def SuiteOk (X : Cx) (body : List Stmt) (ts : Suite) : Prop :=
  ∀ (a : Addr) (ob : Obj) (cls : Value) (d : Option Addr) (ps : List (Addr × Obj)), Zc cls d ob → (∃ fs, ob.data = .fields fs) → PSs (X.suite a ((a, ob) :: ps)) body (ts a cls d)
inductive HdM (X : Cx) : List ExceptHandler → List (Value × Option Nat × Suite) → Prop
  | nil : HdM X [] []
  | cons {x : Str} {c : Value} {nm : Option Str} {i : Option Nat} {ts : Suite} {b : Stmt} {body : List Stmt} {p1 p2 : Pos} {hs : List ExceptHandler} {l : List (Value × Option Nat × Suite)} : Names X x c → NmOk X i nm → SuiteOk X (b :: body) ts → HdM X hs l →
      HdM X (.ExceptHandler (some (.Name x p1)) nm (b :: body) p2 :: hs) ((c, i, ts) :: l)
section
variable {X : Cx} {body : List Stmt} {h0 : ExceptHandler} {hs : List ExceptHandler} {l : List (Value × Option Nat × Suite)} {pos : Pos} {tb : WX → TS} {Wo : WX}
/-- an exception on the ground, the clauses one after another -/
theorem clauses (tk : Takes X Wo) (hstk : X.stack = X.env :: X.outer) (hfm : X.env.frame = some X.env.locals) (hnd : X.N.Nodup) {pins : List (Addr × Obj)} {D : Ends} {a : Addr} {B : Heap} {cls : Value} {d : Option Addr} {z : L2.St} {H : Hp} {sI s1 : Shared} {hp : Heap}
    (J : Inv X pins z H sI) (nb : sI.heap.get? a = none ∨ True) (fly : HandSPX.FlyingZ B (X.env :: X.outer) a (Zc cls d) hp) (nH : H a = none) (os : s1.os = sI.os) (ag : AllBare s1.gens)
    (land : ∀ h', HandSPX.FlyingZ B (X.env :: X.outer) a (Zc cls d) h' → hp.UpToSlots h' → Inv X pins z H { s1 with heap := h' })
    (out : ∀ h4, HandSPX.HeldZ B (X.env :: X.outer) a (Zc cls d) X.env.locals h4 → hp.UpToSlots h4 → Wo cls d z H → X.xe (.ref a) { s1 with heap := h4 }) :
    ∀ {hs : List ExceptHandler} {l : List (Value × Option Nat × Suite)}, HdM X hs l → wMix X.K Wo D l cls d z H → wpAny (model X.prog X.w) X.A (handleBy (.ref a) X.env hs) (SP X pins D) X.xe { s1 with heap := hp } := by
  have ok := J.ok
  have J3 : Inv X pins z H { s1 with heap := hp } := land hp fly (Heap.UpToSlots.refl _)
  have far : ∀ {h : Heap}, HandSPX.FlyingZ B (X.env :: X.outer) a (Zc cls d) h → a ≠ X.env.locals ∧ a ∉ X.fs := fun {h} f => by
    obtain ⟨ob, vs, q1, q2, q3⟩ := f.there
    have nf : a ∉ frs (X.env :: X.outer) := fun m => by
      obtain ⟨_, ob', q4, q5⟩ := f.2.2.1.mem m
      rw [q1] at q4
      cases q4
      exact q5 _ q3
    refine ⟨fun e => nf (List.mem_filterMap.mpr ⟨X.env, List.mem_cons_self, by rw [hfm, e]⟩), fun m => ?_⟩
    obtain ⟨en, m1, m2⟩ := List.mem_filterMap.mp m
    exact nf (List.mem_filterMap.mpr ⟨en, List.mem_cons_of_mem _ m1, m2⟩)
  intro hs l hk
  induction hk with
  | nil =>
    intro w
    refine wpAny_handleBy_nil ?_
    obtain ⟨_, _, _, ob, vs, T, oT, ts', g1, g2, g3, g4, _⟩ := id fly
    unfold PySem.passOn
    refine wpAny_bind (wpAny_field g1 g3 g4 ?_)
    have nt : ¬ ((Value.ref T == Value.none) = true) := by simp
    rw [if_neg nt]
    have last : wpAny (model X.prog X.w) X.A (setFlight (.ref a) X.env.frame) (fun _ s4 => wpAny (model X.prog X.w) X.A (throw (.ref a) : Sem Flow) (SP X pins D) X.xe s4) X.xe { s1 with heap := hp } := by
      rw [hfm]
      exact HandSPX.setFlight_upZ fly fun h4 q up => wpAny_throw (out h4 q up w)
    first
      | exact wpAny_bind (wpAny_pure (wpAny_bind last))
      | exact wpAny_bind last
  | @cons x c nm i ts b0 rest p1 p2 hs2 l2 hc hn hsu r ih =>
    intro w
    obtain ⟨b, hb, yes, no⟩ := w
    obtain ⟨nL, nF⟩ := far fly
    obtain ⟨ob3, vs3, q1, q2, q3⟩ := fly.there
    have S3 := J3.suite q1 q3 nH nL nF
    refine wpAny_handleBy_cons (codeAny_handlers_test ?_) (by intro q; cases q)
    have lt : PySem.W.Looks (model X.prog X.w) hp (typeOf (.ref a)) cls := fun _ _ _ _ k q => wpAny_typeOf_ref (k _ _ q1) (by rw [q2.1]; exact q)
    have lm := PySem.W.exm_one (M := model X.prog X.w) J3.kIn lt hb
    have tst : ∀ {Q E : Value → Shared → Prop}, Q c { s1 with heap := hp } → wpAny (model X.prog X.w) (X.A.mark (some (.ref a))) (eval (.Name x p1) X.env) Q E { s1 with heap := hp } := fun {Q E} q => by
      obtain ⟨k1, k2, k3 | ⟨k3, k4, k5⟩⟩ := hc
      · exact ld_glob (X := X.suite a ((a, ob3) :: (X.pn ++ pins))) S3 k1 k3 q k2
      · exact ld_blt (X := X.suite a ((a, ob3) :: (X.pn ++ pins))) S3 k1 k3 k4 q k5 k2
    refine tst (lm.here ?_)
    cases b with
    | false => exact ih (no rfl)
    | true =>
      have y := yes rfl a nH
      cases i with
      | none =>
        cases nm with
        | some _ => exact False.elim hn
        | none =>
          refine codeAny_handlers_suite (HandSPX.lands_againZ fly fun h4 f4 up4 => ?_)
          have J4 := land h4 f4 up4
          obtain ⟨ob4, vs4, r1, r2, r3⟩ := f4.there
          have S4 := J4.suite r1 r3 nH nL nF
          refine wpAny_mono ((hsu a ob4 cls d (X.pn ++ pins) r2 ⟨_, r3⟩).run [] _ _ H _ S4 y) (fun f s6 q => ?_) (fun _ _ e => False.elim e)
          cases f <;> first
            | (obtain ⟨z6, H6, S6, q6⟩ := q; exact ⟨_, _, S6.unsuite ok, q6⟩)
            | (obtain ⟨v6, z6, H6, S6, r6, q6⟩ := q; exact ⟨_, _, _, S6.unsuite ok, r6, q6⟩)
      | some k =>
        cases nm with
        | none => exact False.elim hn
        | some yn =>
          obtain ⟨n1, n2⟩ := hn
          refine codeAny_handlers_suite_as (HandSPX.lands_againZ fly fun h4 f4 up4 => ?_)
          have J4 := land h4 f4 up4
          obtain ⟨ob4, vs4, r1, r2, r3⟩ := f4.there
          have S4 := J4.suite r1 r3 nH nL nF
          refine store_ok (X := X.suite a ((a, ob4) :: (X.pn ++ pins))) (v := .ref a) S4 hnd n1 (.inl n2) rfl (fun s5 S5 => ?_) (.inr n2)
          refine wpAny_mono ((hsu a ob4 cls d (X.pn ++ pins) r2 ⟨_, r3⟩).run [] s5 _ H _ S5 y) (fun f s6 q => ?_) (fun _ _ e => False.elim e)
          cases f <;> first
            | (obtain ⟨z6, H6, S6, q6⟩ := q; exact gone_ok (S6.unsuite ok) hnd n1 n2 fun s7 J7 => ⟨_, _, J7, q6⟩)
            | (obtain ⟨v6, z6, H6, S6, r6, q6⟩ := q; exact gone_ok (S6.unsuite ok) hnd n1 n2 fun s7 J7 => ⟨_, _, _, J7, r6, q6⟩)
theorem ps_try_mix (tk : Takes X Wo) (hstk : X.stack = X.env :: X.outer) (hfm : X.env.frame = some X.env.locals) (hnd : X.N.Nodup)
    (hb : ∀ (W : WX) (ps : List (Addr × Obj)) (xe : Value → Shared → Prop), Takes (X.tr ps xe) W → PassesOwn (model X.prog X.w) X.A X.env xe → PSs (X.tr ps xe) body (tb W))
    (hh : HdM X (h0 :: hs) l) : PS X (.Try body (h0 :: hs) [] [] pos) (fun D z H => tb (wMix X.K Wo D l) D z H) := by
  refine ⟨fun pins s z H D I w => ?_⟩
  have ok := I.ok
  have hfr : X.A.frames = some (X.env :: X.outer) := by rw [ok.frames, hstk]
  refine wpAny_Try_except ?_
  let out : Value → Shared → Prop := fun e s1 => wpAny (model X.prog X.w) X.A (noteFrame e X.env) (fun _ s2 => wpAny (model X.prog X.w) X.A (setFlight e none) (fun _ s3 =>
    wpAny (model X.prog X.w) X.A (handleBy e X.env (h0 :: hs)) (SP X pins D) X.xe s3) X.xe s2) X.xe s1
  have tak : Takes (X.tr (X.pn ++ pins) out) (wMix X.K Wo D l) := fun u s' x => by
    obtain ⟨a, B, sI, pins', z', H', cls, d, rfl, J', nb, up, sky, na, os, ag, w⟩ := x
    have J : Inv X pins z' H' sI := J'.ofTry ok
    have sky' : Sky B (X.env :: X.outer) a (Zc cls d) X.env.locals s'.heap := by rw [← hstk]; exact sky
    show wpAny (model X.prog X.w) X.A (noteFrame (.ref a) X.env) _ _ _
    refine Sky.land Zc.steady hfr hfm sky' fun h3 fl3 up3 => ?_
    refine clauses tk hstk hfm hnd (s1 := s') (B := B) J (.inr trivial) fl3 na os ag (fun h' f' u' => J.landed nb f'.1 ((up.trans up3).trans u') os ag) (fun h4 q u4 w4 => tk _ _ ?_) hh w
    exact ⟨a, B, sI, pins, z', H', cls, d, rfl, J, nb, (up.trans up3).trans u4, .inr (.inr (by rw [hstk]; exact q)), na, os, ag, w4⟩
  refine wpAny_mono ((hb _ _ out tak PassesOwn.looking).run [] s z H D (I.toTry _) w) (fun f s1 q => ?_) (fun e s1 he => he)
  cases f with
  | next =>
    obtain ⟨z', H', J', q⟩ := q
    exact wpAny_execs_nil ⟨z', H', J'.ofTry ok, q⟩
  | brk =>
    obtain ⟨z', H', J', q⟩ := q
    exact ⟨z', H', J'.ofTry ok, q⟩
  | cont =>
    obtain ⟨z', H', J', q⟩ := q
    exact ⟨z', H', J'.ofTry ok, q⟩
  | ret u =>
    obtain ⟨v, z', H', J', r, q⟩ := q
    exact ⟨v, z', H', J'.ofTry ok, r, q⟩
end
end Fb

set_option linter.all false
set_option maxRecDepth 100000
set_option maxHeartbeats 1000000
namespace Fb
open PySem PySem.Spec L2
section
variable {G : Prg} {A : Cl} {T : Nm} {n : Nat} {X : Cx} {W : WX} {pos p : Pos} {j : Nat}
/-- only tables changed, and new things came -/
theorem extN_rel {K : PySem.W.Frag} {g : Gh} {h : DH} {H H1 : Hp} (R : HRel K g h H) (eN : LamX.ExtN H H1) (T1 : LamX.Tabs (tau K) H1) : Ext g H g H1 ∧ HRel K g h H1 := by
  have key : ∀ a, H a ≠ none → ¬ Loose g a → H1 a = H a := fun a h1 h2 => by
    cases e : H a with
    | none => exact absurd e h1
    | some o => exact eN a o e fun ps z => h2 (R.tbl a ps (by rw [e, z]))
  have kf : ∀ a, g.fz a → H1 a = H a := fun a q => key a (R.fzl a q) fun z => z.fz q
  have ko : ∀ a, g.ow a → H1 a = H a := fun a q => key a (R.owl a q) fun z => z.ow q
  have ki : ∀ l a, g.io l = some a → H1 a = H a := fun l a q => key a (R.liv l a q) fun z => z.io l q
  have e : Ext g H g H1 := ⟨⟨fun _ _ z => z, fun _ z => z, kf, fun a xs z => eN a _ z fun ps z => (by cases z), fun a o u z => eN a _ z fun ps z => (by cases z)⟩, fun _ z => z, ko⟩
  refine ⟨e, ⟨fun l o hl => ?_, R.inj, fun l a q => ?_, fun a q => ?_, fun a q => ?_, R.owf, R.owio, R.fin, T1, fun a ps z => ?_, fun a φ q => ?_⟩⟩
  · obtain ⟨a, h1, h2, h3⟩ := R.obj l o hl
    exact ⟨a, h1, h2, h3.mono e (ki l a h1)⟩
  · rw [ki l a q]; exact R.liv l a q
  · rw [kf a q]; exact R.fzl a q
  · rw [ko a q]; exact R.owl a q
  · cases e2 : H a with
    | none => exact R.loose e2
    | some o =>
      by_cases ho : ∃ ps, o = .tbl ps
      · obtain ⟨ps', ho⟩ := ho
        exact R.tbl a ps' (by rw [e2, ho])
      · have := eN a o e2 fun ps z => ho ⟨ps, z⟩
        rw [z] at this
        exact absurd ⟨ps, (Option.some.inj this).symm⟩ ho
  · rw [ko a q]; exact R.owx a φ q
theorem e_lcall (o : Good G A T n X W) (hh : T.hot = false) (hmd : T.md = 0) (hlm : T.lm = true) {k : Nat} {nm : Str} {body : IE} {params : Arguments} {lb : Expr} {scope sc : Scope} {lp : Pos} (SC : ScR sc X) (hT : T.tks.lookup k = some nm) (hk : T.lv k < n) (hg : glB sc nm = true) (hd : dbgB nm = true)
    (hp : noPar params = true) (hL : LamX.lamSB sc scope = true)
    (hb : ∀ (A' : Around) (outer : List Env) (s : Shared) (H : Hp) (f c' : Addr) (E : XK), Room (4 * n) (A'.deeper (LamX.lamEnv X scope s.heap.objs.size f c')) → PE (LamX.lamCx X A' outer s H E scope f c') lb (tD G A X.K (fun cls d _ H' => E cls d H') body)) :
    PE X (.Call (.Name nm p) [.Lambda params lb scope lp] [] pos) (tD G A X.K W (.lcall k body)) := by
  obtain ⟨g, a, pg, bg, sg, dV, kV, doc, pm, cd, ct, oc, an, od, osl, Ng, f1, f2, f3, f4, f5, f6, f7, f8, f9, f10⟩ := o.tks hh hmd k nm hT hk
  obtain ⟨c, P, t1, t2, t3, t4⟩ := o.tabs hh hmd hlm
  have L0 := LamX.lamS_by hL
  have L : LamX.LamS X.env.scope scope := ⟨L0.kind, L0.co, L0.gen, L0.own, fun y hy e => SC.cf y.1 (L0.free y hy e)⟩
  have hpe : params = ⟨[], [], none, [], [], none, []⟩ := by
    obtain ⟨q1, q2, q3, q4, q5, q6, q7⟩ := params
    simp only [noPar, Bool.and_eq_true, List.isEmpty_iff, Option.isNone_iff_eq_none] at hp
    obtain ⟨⟨⟨⟨⟨⟨h1, h2⟩, h3⟩, h4⟩, h5⟩, h6⟩, h7⟩ := hp
    subst h1 h2 h3 h4 h5 h6 h7
    rfl
  subst hpe
  have hr := o.roomR hh (by rw [hmd]; decide)
  refine (pe_lamS (T := tau X.K) (TT := TTk G A X.K k) (k := 4 * n) (t := fun E => tD G A X.K (fun cls d _ H' => E cls d H') body) (SC.gl _ hg) f1 f2 f3 f4 f5 f6 f7 f8 f9 hr (f10 X.A X.stack _ (hr.mono (by omega))) t1 t2 t3 t4 L rfl (fun _ _ _ _ _ => rfl) hb hd).imp fun σ H Q h0 => ?_
  obtain ⟨g, σd, h, R, S, w⟩ := h0
  refine ⟨R.tab, fun H1 eN T1 => ?_⟩
  obtain ⟨e1, R1⟩ := extN_rel R eN T1
  refine ⟨g, h, σd, fun h' Q' E' => wpE G body σd h' Q' E', R1, S.mono e1, fun h Q Q' E E' hQ hE z => wpE_mono o.mono body hQ hE z, fun g' h' H' Qd Ed E Q' R' S' z hQ hE => ?_, o.mono.tk _ _ _ _ _ (fun _ _ _ _ _ q e z => wpE_mono o.mono body q e z) (KQ.up e1) w⟩
  exact ⟨g', σd, h', R', S', wpE_mono o.mono body hQ hE z⟩
/-- the lambda's body -/
theorem lam_good (o : Good G A T n X W) (hh : T.hot = false) {scope : Scope} {A' : Around} {outer : List Env} {s : Shared} {H : Hp} {f c' : Addr} {E : XK} (hr : Room (4 * n) (A'.deeper (LamX.lamEnv X scope s.heap.objs.size f c'))) :
    Good G A { T with md := 2 } n (LamX.lamCx X A' outer s H E scope f c') (fun cls d _ H' => E cls d H') :=
  ⟨o.mono, fun _ => rfl, fun _ => hr, fun _ z => absurd z (by show ¬ (2 < 2); decide), (by have := hr.un; show (A'.deeper (LamX.lamEnv X scope s.heap.objs.size f c')).units + 100 < cLine; omega), o.nd, takes_of rfl rfl rfl rfl, o.con, o.fns, o.blt, passes_of rfl, o.cls, o.sub, o.cf, fun z => absurd (hh.symm.trans z) (by decide), o.xf, o.mkx, fun _ z => absurd z (by show ¬ (2 = 1); decide), fun _ z => absurd z (by show ¬ (2 = 0); decide), fun _ z => absurd z (by show ¬ (2 = 0); decide)⟩
theorem lam_sc {sc scope : Scope} (hL : LamX.lamSB sc scope = true) {A' : Around} {outer : List Env} {s : Shared} {H : Hp} {f c' : Addr} {E : XK} : ScR scope (LamX.lamCx X A' outer s H E scope f c') := by
  have L0 := LamX.lamS_by hL
  refine ⟨fun x h => vis_of h, fun x h => ?_, fun x h => gl_of (X := LamX.lamCx X A' outer s H E scope f c') h, fun x h => h, fun x h => h⟩
  rcases loc_of h with k | k
  · exact absurd rfl (L0.own _ (PySem.mem_of_lookup k)).1
  · exact absurd rfl (L0.own _ (PySem.mem_of_lookup k)).2
/-! ### chains of two comparisons -/
theorem op_co {op : CO} {op' : CmpOp} (h : coB op op' = true) : OpR X (compareOp op') (rI0 fun i j => .bl (cmpD op i j)) := by
  cases op <;> cases op' <;> first
    | (exact Bool.noConfusion h; done)
    | exact op_lt
    | exact op_le
    | exact op_gt
    | exact op_ge
theorem co_marks {o1 o2 : CO} {p1 p2 : CmpOp} {b c : Expr} (h1 : coB o1 p1 = true) (h2 : coB o2 p2 = true) : lastMarks [p1, p2] [b, c] = false := by
  have e1 := nomark b (op := p1) (by rintro rfl; cases o1 <;> cases h1) (by rintro rfl; cases o1 <;> cases h1)
  have e2 := nomark c (op := p2) (by rintro rfl; cases o2 <;> cases h2) (by rintro rfl; cases o2 <;> cases h2)
  simp [lastMarks, e1, e2]
theorem e_chain (o : Good G A T n X W) {o1 o2 : CO} {p1 p2 : CmpOp} {a b c : IE} {a' b' c' : Expr} (h1 : coB o1 p1 = true) (h2 : coB o2 p2 = true) (ha : PE X a' (tD G A X.K W a)) (hb : PE X b' (tD G A X.K W b)) (hc : PE X c' (tD G A X.K W c)) :
    PE X (.Compare a' [p1, p2] [b', c'] pos) (tD G A X.K W (.chain o1 o2 a b c)) ∧ PT X (.Compare a' [p1, p2] [b', c'] pos) (tDT G A X.K W (.chain o1 o2 a b c)) := by
  have fin : ∀ σ H Q, tD G A X.K W (.chain o1 o2 a b c) σ H Q → tChain (rI0 fun i j => .bl (cmpD o1 i j)) (rI0 fun i j => .bl (cmpD o2 i j)) (tD G A X.K W a) (tD G A X.K W b) (tD G A X.K W c) σ H Q := by
    rintro σ H Q ⟨g, σd, h, R, S, w⟩
    refine stepE o.mono R S w fun x h1 g1 v H1 e1 R1 r1 w1 => ?_
    refine stepE o.mono R1 (S.mono e1) (upE o.mono e1 w1) fun y h2 g2 u H2 e2 R2 r2 q => ?_
    obtain ⟨i, j, hx, hy, q⟩ := q
    subst hx
    subst hy
    cases r1
    cases r2
    have e12 := e1.trans e2
    refine ⟨i, j, rfl, rfl, cmpD o1 i j, rfl, ?_⟩
    cases hcm : cmpD o1 i j with
    | false =>
      rw [hcm, if_neg (by decide)] at q
      rw [if_neg (by decide)]
      exact q g2 _ _ e12 R2 (.bl _)
    | true =>
      rw [hcm, if_pos rfl] at q
      rw [if_pos rfl]
      refine stepE o.mono R2 (S.mono e12) (upE o.mono e12 q) fun z h3 g3 v3 H3 e3 R3 r3 q3 => ?_
      obtain ⟨k, hz, q3⟩ := q3
      subst hz
      cases r3
      exact ⟨j, k, rfl, rfl, q3 g3 _ _ (e12.trans e3) R3 (.bl _)⟩
  refine ⟨(pe_chain (op_co h1) (op_co h2) ha hb hc (co_marks h1 h2)).imp fin, (pt_chain (op_co h1) (op_co h2) ha hb hc (co_marks h1 h2)).imp fun σ H Q w => fin σ H _ w⟩
theorem e_dict1 (o : Good G A T n X W) {a b : IE} {a' b' : Expr} (ha : PE X a' (tD G A X.K W a)) (hb : PE X b' (tD G A X.K W b)) : PE X (.Dict [some a'] [b'] pos) (tD G A X.K W (.dict1 a b)) := by
  refine (pe_disp (pps_cons ha hb pps_nil) rfl rfl (by simp) (by simp)).imp fun z H Q ⟨g, zd, h, R, S, w⟩ => ?_
  intro p hp
  obtain ⟨e1, R1⟩ := new_any (o := .dK []) hp R
  have lo := R.loose hp
  obtain ⟨eO, RO⟩ := own_in lo upd_same R1
  have e1O := e1.trans eO
  refine stepE o.mono RO (S.mono e1O) (upE o.mono e1O w) fun x h1 g1 v H1 e2 R2 r2 w2 => ?_
  refine stepE o.mono R2 ((S.mono e1O).mono e2) (upE o.mono (e1O.trans e2) w2) fun y h2 g2 u H2 e3 R3 r3 q => ?_
  obtain ⟨hk, q⟩ := q
  obtain ⟨z1, z2, z3, z4, z5⟩ := own_out lo (e2.trans e3) R3
  have hp2 : H2 p = some (.dK []) := z1.trans upd_same
  refine ⟨hp2, ?_⟩
  have r2' := r2.mono e3
  have key : ∃ k : Key, kV k = v := by
    cases r2' <;> first
      | (exact Bool.noConfusion hk; done)
      | exact ⟨.inl _, rfl⟩
      | exact ⟨.inr _, rfl⟩
  obtain ⟨k, hk2⟩ := key
  refine ⟨[(k, u)], by rw [← hk2]; rfl, by simp, ?_⟩
  obtain ⟨e5, R5⟩ := set_loose (o := .dK (mergeK [] [(k, u)])) z4 (fun xs z => by rw [hp2] at z; cases z) (fun _ _ z => by rw [hp2] at z; cases z) (fun _ z => by rw [hp2] at z; cases z) (fun _ z => by rw [hp2] at z; cases z) (fun _ z => by cases z) z3
  obtain ⟨g6, l, hl, e6, R6, r6⟩ := adopt_mutO (ob := .dic [(x, y)]) z4 (by rw [upd_same]; exact fun z => nomatch z) R5 ⟨_, upd_same⟩
  exact q l hl g6 _ _ (((e1.trans z2).trans e5).trans e6) R6 r6
theorem e_isB (o : Good G A T n X W) {ng v : Bool} {op' : CmpOp} {a : IE} {a' : Expr} {q2 : Pos} {k2 : Nat} (hop : isB ng op' = true) (ha : PE X a' (tD G A X.K W a)) :
    PE X (.Compare a' [op'] [.Constant (.bool v) k2 q2] pos) (tD G A X.K W (.isB ng v a)) ∧ PT X (.Compare a' [op'] [.Constant (.bool v) k2 q2] pos) (tDT G A X.K W (.isB ng v a)) := by
  cases ng <;> cases op' <;> first
    | (exact Bool.noConfusion hop; done)
    | skip
  · have fin : ∀ σ H Q, tD G A X.K W (.isB false v a) σ H Q → tOp rIsB (tD G A X.K W a) (tC (.bl v)) σ H Q := fun σ H Q ⟨g, σd, h, R, S, w⟩ => stepE o.mono R S w fun x h1 g1 u H1 e1 R1 r1 ⟨b, hx, q⟩ => by
      subst hx
      cases r1
      refine ⟨b, v, rfl, rfl, ?_⟩
      have e : decide (b = v) = (b == v) := by cases b <;> cases v <;> rfl
      rw [e]
      exact q g1 _ _ e1 R1 (.bl _)
    exact ⟨(pe_cmpR op_isBl ha pe_bl (nomark _)).imp fin, (pt_cmpR op_isBl ha pe_bl (nomark _)).imp fun σ H Q w => fin σ H _ w⟩
  · have fin : ∀ σ H Q, tD G A X.K W (.isB true v a) σ H Q → tOp rNotB (tD G A X.K W a) (tC (.bl v)) σ H Q := fun σ H Q ⟨g, σd, h, R, S, w⟩ => stepE o.mono R S w fun x h1 g1 u H1 e1 R1 r1 ⟨b, hx, q⟩ => by
      subst hx
      cases r1
      refine ⟨b, v, rfl, rfl, ?_⟩
      have e : decide (b = v) = (b == v) := by cases b <;> cases v <;> rfl
      rw [e]
      exact q g1 _ _ e1 R1 (.bl _)
    exact ⟨(pe_cmpR op_notBl ha pe_bl (nomark _)).imp fin, (pt_cmpR op_notBl ha pe_bl (nomark _)).imp fun σ H Q w => fin σ H _ w⟩
end
end Fb

set_option linter.all false
set_option maxRecDepth 100000
set_option maxHeartbeats 1000000
namespace Fb
open PySem PySem.Spec L2

section
variable {G : Prg} {A : Cl} {T : Nm} {n : Nat}
theorem mL_len {N : List Str} : ∀ {es : IL} {sc : Scope} {as : List Expr}, mL T n N es sc as = true → es.length = as.length
  | .nil, _, [], _ => rfl
  | .nil, _, _ :: _, h => by cases h
  | .cons e r, _, [], h => by cases h
  | .cons e r, sc, a :: as, h => by
    have h' := (andB (show (mE T n N e sc a && mL T n N r sc as) = true from h)).2
    show r.length + 1 = as.length + 1
    rw [mL_len h']
theorem mK_len {N : List Str} : ∀ {es : IL} {sc : Scope} {as : List Keyword}, mK T n N es sc as = true → es.length = as.length
  | .nil, _, [], _ => rfl
  | .nil, _, _ :: _, h => by cases h
  | .cons e r, _, [], h => by cases h
  | .cons e r, sc, ⟨_, a, _⟩ :: as, h => by
    have h' := (andB (show (mE T n N e sc a && mK T n N r sc as) = true from h)).2
    show r.length + 1 = as.length + 1
    rw [mK_len h']
theorem kwB_len {ps : List Str} : ∀ {ks : List Nat} {kws : List Keyword}, kwB ps ks kws = true → ks.length = kws.length
  | [], [], _ => rfl
  | k :: ks, ⟨some x, e, kp⟩ :: r, h => by
    rw [List.length_cons, List.length_cons, kwB_len (andB (show (decide (ps[k]? = some x) && kwB ps ks r) = true from h)).2]
  | [], _ :: _, h => by cases h
  | _ :: _, [], h => by cases h
  | _ :: _, ⟨none, _, _⟩ :: _, h => by cases h
theorem mL_plain {N : List Str} : ∀ {es : IL} {sc : Scope} {as : List Expr}, mL T n N es sc as = true → ∀ a ∈ as, plainX a = true
  | .nil, _, [], _, a, ha => by cases ha
  | .nil, _, _ :: _, h, _, _ => by cases h
  | .cons e r, _, [], h, _, _ => by cases h
  | .cons e r, sc, a :: as, h, b, hb => by
    obtain ⟨h1, h2⟩ := andB (show (mE T n N e sc a && mL T n N r sc as) = true from h)
    rcases List.mem_cons.mp hb with z | z
    · rw [z]; exact mE_plain h1
    · exact mL_plain h2 b z
/-- not a form that a test looks at by itself -/
def ownTest : Expr → Bool
  | .UnaryOp .Not _ _ => true
  | .BoolOp _ _ _ => true
  | .IfExp _ _ _ _ => true
  | .Compare _ _ _ _ => true
  | _ => false
theorem isTrue_plainX {a : Expr} {env : Env} (h : ownTest a = false) : ∀ whole, isTrue a env whole = (do let v ← whole; standAt a.pos; holding [v] (truthy v)) := by
  intro whole
  cases a <;> first
    | rfl
    | (exact Bool.noConfusion h; done)
    | skip
  rename_i op x pp
  cases op <;> first
    | rfl
    | exact Bool.noConfusion h

/-- both readings of an expression: as a value, as a test -/
def Bo (G : Prg) (A : Cl) (X : Cx) (W : WX) (e : IE) (a : Expr) : Prop := PE X a (tD G A X.K W e) ∧ PT X a (tDT G A X.K W e)
theorem Bo.of {X : Cx} {W : WX} {e : IE} {a : Expr} (h : PE X a (tD G A X.K W e)) (ho : ownTest a = false) : Bo G A X W e a := ⟨h, tDT_val h (isTrue_plainX ho)⟩

mutual
theorem sE : ∀ (e : IE) {T : Nm} {X : Cx} {W : WX} {sc : Scope} {a : Expr}, Good G A T n X W → ScR sc X → mE T n X.N e sc a = true → Bo G A X W e a
  | .cst d, T, X, W, sc, a, o, SC, h => by
    unfold mE at h
    split at h
    · exact .of (e_cst h) rfl
    · cases h
  | .var i, T, X, W, sc, a, o, SC, h => by
    unfold mE at h
    split at h
    · obtain ⟨h12, h3⟩ := andB h
      obtain ⟨h1, h2⟩ := andB h12
      exact .of (e_var (of_decide_eq_true h1) (SC.vis _ h2) h3) rfl
    · cases h
  | .gcon k, T, X, W, sc, a, o, SC, h => by
    unfold mE at h
    split at h
    · obtain ⟨h12, h3⟩ := andB h
      obtain ⟨h1, h2⟩ := andB h12
      exact .of (e_gcon o (of_decide_eq_true h1) (SC.gl _ h2) h3) rfl
    · cases h
  | .tup es, T, X, W, sc, a, o, SC, h => by
    unfold mE at h
    split at h
    · obtain ⟨h1, h2⟩ := andB h
      exact .of (e_tup o (sL es o SC h1) (of_decide_eq_true h2) (mL_len h1)) rfl
    · cases h
  | .disp m es, T, X, W, sc, a, o, SC, h => by
    unfold mE at h
    split at h
    · obtain ⟨h1, h2⟩ := andB h
      exact .of (e_disp o (sL es o SC h1) (of_decide_eq_true h2) (mL_len h1)) rfl
    · cases h
  | .dnew, T, X, W, sc, a', o, SC, h => by
    unfold mE at h
    split at h
    · exact .of e_dnew rfl
    · cases h
  | .idx a b, T, X, W, sc, a', o, SC, h => by
    unfold mE at h
    split at h
    · obtain ⟨h1, h2⟩ := andB h
      exact .of (e_idx o (sE a o SC h1).1 (sE b o SC h2).1 (mE_plain h2)) rfl
    · cases h
  | .slcT a lo hi, T, X, W, sc, a', o, SC, h => by
    unfold mE at h
    split at h
    · obtain ⟨h12, h3⟩ := andB h
      obtain ⟨h1, h2⟩ := andB h12
      exact .of (e_slcT o (sE a o SC h1).1 (sO lo o SC h2) (sO hi o SC h3)) rfl
    · cases h
  | .slcL m a lo hi, T, X, W, sc, a', o, SC, h => by
    unfold mE at h
    split at h
    · obtain ⟨h12, h3⟩ := andB h
      obtain ⟨h1, h2⟩ := andB h12
      exact .of (e_slcL o (sE a o SC h1).1 (sO lo o SC h2) (sO hi o SC h3)) rfl
    · cases h
  | .bin op a b, T, X, W, sc, a', o, SC, h => by
    unfold mE at h
    split at h
    · obtain ⟨h12, h3⟩ := andB h
      obtain ⟨h1, h2⟩ := andB h12
      exact .of (e_bin o h1 (sE a o SC h2).1 (sE b o SC h3).1) rfl
    · cases h
  | .neg a, T, X, W, sc, a', o, SC, h => by
    unfold mE at h
    split at h
    · exact .of (e_neg o (sE a o SC h).1) rfl
    · cases h
  | .catT a b, T, X, W, sc, a', o, SC, h => by
    unfold mE at h
    split at h
    · obtain ⟨h1, h2⟩ := andB h
      exact .of (e_catT o (sE a o SC h1).1 (sE b o SC h2).1) rfl
    · cases h
  | .cat m a b, T, X, W, sc, a', o, SC, h => by
    unfold mE at h
    split at h
    · obtain ⟨h1, h2⟩ := andB h
      exact .of (e_cat o (sE a o SC h1).1 (sE b o SC h2).1) rfl
    · cases h
  | .rep m a b, T, X, W, sc, a', o, SC, h => by
    unfold mE at h
    split at h
    · obtain ⟨h1, h2⟩ := andB h
      exact .of (e_rep o (sE a o SC h1).1 (sE b o SC h2).1) rfl
    · cases h
  | .cmp op a b, T, X, W, sc, a', o, SC, h => by
    unfold mE at h
    split at h
    · obtain ⟨h12, h3⟩ := andB h
      obtain ⟨h1, h2⟩ := andB h12
      exact e_cmp o h1 (sE a o SC h2).1 (sE b o SC h3).1
    · cases h
  | .eq ng a b, T, X, W, sc, a', o, SC, h => by
    unfold mE at h
    split at h
    · obtain ⟨h12, h3⟩ := andB h
      obtain ⟨h1, h2⟩ := andB h12
      exact e_eq o h1 (sE a o SC h2).1 (sE b o SC h3).1
    · cases h
  | .isN ng a, T, X, W, sc, a', o, SC, h => by
    unfold mE at h
    split at h
    · obtain ⟨h1, h2⟩ := andB h
      exact e_isN o h1 (sE a o SC h2).1
    · cases h
  | .inn ng a b, T, X, W, sc, a', o, SC, h => by
    unfold mE at h
    split at h
    · obtain ⟨h12, h3⟩ := andB h
      obtain ⟨h1, h2⟩ := andB h12
      exact e_inn o h1 (sE a o SC h2).1 (sE b o SC h3).1 (mE_plain h3)
    · cases h
  | .band es, T, X, W, sc, a', o, SC, h => by
    unfold mE at h
    split at h
    · obtain ⟨h1, h2⟩ := sAnd es o SC h
      exact ⟨h1, h2.pt⟩
    · cases h
  | .bor es, T, X, W, sc, a', o, SC, h => by
    unfold mE at h
    split at h
    · obtain ⟨h1, h2⟩ := sOr es o SC h
      exact ⟨h1, h2.pt⟩
    · cases h
  | .not a, T, X, W, sc, a', o, SC, h => by
    unfold mE at h
    split at h
    · have q := sE a o SC h
      exact ⟨e_not o q.1, t_not o q.2⟩
    · cases h
  | .ite c a b, T, X, W, sc, a', o, SC, h => by
    unfold mE at h
    split at h
    · obtain ⟨h12, h3⟩ := andB h
      obtain ⟨h1, h2⟩ := andB h12
      have q1 := sE c o SC h1
      have q2 := sE a o SC h2
      have q3 := sE b o SC h3
      exact ⟨e_ite o q1.2 q2.1 q3.1, t_ite o q1.2 q2.2 q3.2⟩
    · cases h
  | .call k as ks kws, T, X, W, sc, a', o, SC, h => by
    unfold mE at h
    split at h
    · split at h
      · rename_i nm ps shs hT
        obtain ⟨h, h8⟩ := andB h
        obtain ⟨h, h7⟩ := andB h
        obtain ⟨h, h6⟩ := andB h
        obtain ⟨h, h5⟩ := andB h
        obtain ⟨h, h4⟩ := andB h
        obtain ⟨h, h3⟩ := andB h
        obtain ⟨h, h2⟩ := andB h
        obtain ⟨h0, h1⟩ := andB h
        have hh := hot_of h0
        have e := beq_of h2
        subst e
        exact .of (e_call o hh (of_decide_eq_true h1) hT (SC.gl _ h3) h4 (sL as o SC h5) (mL_plain h5) (mL_len h5) (sK kws o SC h7) (by rw [mK_len h7, kwB_len h6]) h6 (by simpa using h8)) rfl
      · cases h
    · cases h
  | .isi a ts, T, X, W, sc, a', o, SC, h => by
    unfold mE at h
    split at h
    · obtain ⟨h12, h3⟩ := andB h
      obtain ⟨h1, h2⟩ := andB h12
      exact .of (e_isi o SC h1 (sE a o SC h2).1 (mE_plain h2) h3) rfl
    · cases h
  | .len a, T, X, W, sc, a', o, SC, h => by
    unfold mE at h
    split at h
    · obtain ⟨h1, h2⟩ := andB h
      exact .of (e_len o SC h1 (sE a o SC h2).1 (mE_plain h2)) rfl
    · cases h
  | .int1 a, T, X, W, sc, a', o, SC, h => by
    unfold mE at h
    split at h
    · obtain ⟨h1, h2⟩ := andB h
      exact .of (e_int1 o SC h1 (sE a o SC h2).1 (mE_plain h2)) rfl
    · cases h
  | .any a, T, X, W, sc, a', o, SC, h => by
    unfold mE at h
    split at h
    · obtain ⟨h, h2⟩ := andB h
      obtain ⟨h0, h1⟩ := andB h
      exact .of (e_any o (hot_of h0) SC h1 (sE a o SC h2).1 (mE_plain h2)) rfl
    · cases h
  | .all a, T, X, W, sc, a', o, SC, h => by
    unfold mE at h
    split at h
    · obtain ⟨h, h2⟩ := andB h
      obtain ⟨h0, h1⟩ := andB h
      exact .of (e_all o (hot_of h0) SC h1 (sE a o SC h2).1 (mE_plain h2)) rfl
    · cases h
  | .lof m a, T, X, W, sc, a', o, SC, h => by
    unfold mE at h
    split at h
    · obtain ⟨h1, h2⟩ := andB h
      exact .of (e_lof o SC h1 (sE a o SC h2).1 (mE_plain h2)) rfl
    · cases h
  | .tof a, T, X, W, sc, a', o, SC, h => by
    unfold mE at h
    split at h
    · obtain ⟨h1, h2⟩ := andB h
      exact .of (e_tof o SC h1 (sE a o SC h2).1 (mE_plain h2)) rfl
    · cases h
  | .xfld a f, T, X, W, sc, a', o, SC, h => by
    unfold mE at h
    split at h
    · rename_i a2 f2 pos
      obtain ⟨h, h4⟩ := andB h
      obtain ⟨h, h3⟩ := andB h
      obtain ⟨h1, h2⟩ := andB h
      have e := beq_of h2
      subst e
      have hb : attributeBase a2 f X.env (eval a2 X.env) = eval a2 X.env := by
        cases a2 <;> first
          | rfl
          | exact Bool.noConfusion h4
      exact .of (e_xfld o h1 (sE a o SC h3).1 hb) rfl
    · cases h
  | .lcall k body, T, X, W, sc, a', o, SC, h => by
    unfold mE at h
    split at h
    · split at h
      · rename_i nm hT
        obtain ⟨h, h9⟩ := andB h
        obtain ⟨h, h8⟩ := andB h
        obtain ⟨h, h7⟩ := andB h
        obtain ⟨h, h6⟩ := andB h
        obtain ⟨h, h5⟩ := andB h
        obtain ⟨h, h4⟩ := andB h
        obtain ⟨h, h3⟩ := andB h
        obtain ⟨h, h2⟩ := andB h
        obtain ⟨h0, h1⟩ := andB h
        have hh := hot_of h0
        have e := beq_of h4
        subst e
        exact .of (e_lcall o hh (by simpa using h1) h2 SC hT (of_decide_eq_true h3) h5 h6 h7 h8 fun A' outer s H f c' E hr => (sE body (lam_good o hh hr) (lam_sc h8) h9).1) rfl
      · cases h
    · cases h
  | .act i, T, X, W, sc, a', o, SC, h => by
    unfold mE at h
    split at h
    · obtain ⟨h, h6⟩ := andB h
      obtain ⟨h, h5⟩ := andB h
      obtain ⟨h, h4⟩ := andB h
      obtain ⟨h, h3⟩ := andB h
      obtain ⟨h0, h2⟩ := andB h
      have e := of_decide_eq_true h3
      subst e
      exact .of (o.act (hot_of h0) (by simpa using h2) _ X.pn X.xe W _ _ (of_decide_eq_true h4) o.tk) rfl
    · cases h
  | .fld _ _, T, X, W, sc, a', o, SC, h => by cases h
  | .meth _ _ _, T, X, W, sc, a', o, SC, h => by cases h
  | .isiC _ _, T, X, W, sc, a', o, SC, h => by cases h
  | .oeq _ _ _, T, X, W, sc, a', o, SC, h => by cases h
  | .chain o1 o2 a b c, T, X, W, sc, a', o, SC, h => by
    unfold mE at h
    split at h
    · obtain ⟨h, h5⟩ := andB h
      obtain ⟨h, h4⟩ := andB h
      obtain ⟨h, h3⟩ := andB h
      obtain ⟨h1, h2⟩ := andB h
      exact e_chain o h1 h2 (sE a o SC h3).1 (sE b o SC h4).1 (sE c o SC h5).1
    · cases h
  | .dict1 a b, T, X, W, sc, a', o, SC, h => by
    unfold mE at h
    split at h
    · obtain ⟨h1, h2⟩ := andB h
      exact .of (e_dict1 o (sE a o SC h1).1 (sE b o SC h2).1) rfl
    · cases h
  | .isB ng v a, T, X, W, sc, a', o, SC, h => by
    unfold mE at h
    split at h
    · obtain ⟨h, h3⟩ := andB h
      obtain ⟨h1, h2⟩ := andB h
      have e := beq_iff_eq.mp h2
      subst e
      exact e_isB o h1 (sE a o SC h3).1
    · cases h
  | .comp m t it ifs elt, T, X, W, sc, a', o, SC, h => by
    unfold mE at h
    split at h
    · rename_i elt' tg' it' ifs' ay scope pos
      obtain ⟨h, h7⟩ := andB h
      obtain ⟨h, h6⟩ := andB h
      obtain ⟨h, h5⟩ := andB h
      obtain ⟨h, h4⟩ := andB h
      obtain ⟨h, h3⟩ := andB h
      obtain ⟨h, h2⟩ := andB h
      obtain ⟨h0, h1⟩ := andB h
      have hh := hot_of h0
      have e := of_decide_eq_true h1
      subst e
      have bk := blkOk_by h2
      have ok : BlkOk X.N X.env.scope scope (ownOf X.N t) := ⟨bk.kind, bk.uniq, bk.ix, fun y hy e => SC.cf _ (bk.free y hy e), bk.own⟩
      obtain ⟨hi, hpl⟩ := sI it o SC h4 (tg := tg')
      refine .of ((pe_lc (own := ownOf X.N t) (g := gT X.K t) (tt := tIfs G A X.K ifs) (te := tD G A X.K (fun _ _ _ _ => False) elt) (o.calm hh) o.nd hi ok (fun s H C cl fp => pg_tg (o.blk hh s H scope _ fp) hh (ScR.blk s H scope C cl fp) h3)
        (fun s H C cl fp => sIfs ifs (o.blk hh s H scope _ fp) (ScR.blk s H scope C cl fp) h5 (of_decide_eq_true h6)) (fun s H C cl fp => (sE elt (o.blk hh s H scope _ fp) (ScR.blk s H scope C cl fp) h7).1) hpl).imp fun σ H Q w => ?_) rfl
      rw [own_of h3]
      exact comp_read o σ H Q w
    · cases h
theorem sL : ∀ (e : IL) {T : Nm} {X : Cx} {W : WX} {sc : Scope} {a : List Expr}, Good G A T n X W → ScR sc X → mL T n X.N e sc a = true → PA X a (tDL G A X.K W e)
  | .nil, T, _, _, _, [], _, _, _ => a_nil
  | .nil, T, _, _, _, _ :: _, _, _, h => by cases h
  | .cons e r, T, _, _, _, [], _, _, h => by cases h
  | .cons e r, T, X, W, sc, a :: as, o, SC, h => by
    obtain ⟨h1, h2⟩ := andB (show (mE T n X.N e sc a && mL T n X.N r sc as) = true from h)
    exact a_cons o (sE e o SC h1).1 (sL r o SC h2) (mE_plain h1)
theorem sK : ∀ (e : IL) {T : Nm} {X : Cx} {W : WX} {sc : Scope} {a : List Keyword}, Good G A T n X W → ScR sc X → mK T n X.N e sc a = true → PK X a (tDL G A X.K W e)
  | .nil, T, _, _, _, [], _, _, _ => k_nil
  | .nil, T, _, _, _, _ :: _, _, _, h => by cases h
  | .cons e r, T, _, _, _, [], _, _, h => by cases h
  | .cons e r, T, X, W, sc, ⟨nm, a, kp⟩ :: as, o, SC, h => by
    obtain ⟨h1, h2⟩ := andB (show (mE T n X.N e sc a && mK T n X.N r sc as) = true from h)
    exact k_cons o (sE e o SC h1).1 (sK r o SC h2)
theorem sO : ∀ (e : IO) {T : Nm} {X : Cx} {W : WX} {sc : Scope} {a : Option Expr}, Good G A T n X W → ScR sc X → mO T n X.N e sc a = true → PO X a (tDO G A X.K W e)
  | .no, T, _, _, _, none, _, _, _ => po_none.imp fun σ H Q ⟨g, σd, h, R, S, w⟩ => w g _ (.refl _ _) R
  | .no, T, _, _, _, some _, _, _, h => by cases h
  | .so e, T, _, _, _, none, _, _, h => by cases h
  | .so e, T, X, W, sc, some a, o, SC, h => (po_some (sE e o SC h).1).imp fun σ H Q ⟨g, σd, h, R, S, w⟩ => stepE o.mono R S w fun x h1 g1 v H1 e1 R1 r1 ⟨i, hx, q⟩ => by
      subst hx; cases r1; exact ⟨i, rfl, q g1 _ e1 R1⟩
theorem sAnd : ∀ (e : IL) {T : Nm} {X : Cx} {W : WX} {sc : Scope} {a : List Expr} {pos : Pos}, Good G A T n X W → ScR sc X → mL T n X.N e sc a = true → PE X (.BoolOp .And a pos) (tD G A X.K W (.band e)) ∧ PW X (.BoolOp .And a pos) (tDT G A X.K W (.band e))
  | .nil, T, _, _, _, [], _, _, _, _ => ⟨⟨fun _ _ _ _ _ _ w => by obtain ⟨g, σd, h, R, S, w⟩ := w; exact w.elim⟩, ⟨fun _ _ _ _ _ _ _ w => by obtain ⟨g, σd, h, R, S, w⟩ := w; exact w.elim⟩⟩
  | .nil, T, _, _, _, _ :: _, _, _, _, h => by cases h
  | .cons e r, T, _, _, _, [], _, _, _, h => by cases h
  | .cons e .nil, T, X, W, sc, [a], pos, o, SC, h => by
    have q := sE e o SC (andB (show (mE T n X.N e sc a && mL T n X.N .nil sc []) = true from h)).1
    exact ⟨(pe_one q.1).imp fun _ _ _ w => w, (pw_and1 q.2).imp fun _ _ _ w => w⟩
  | .cons e .nil, T, X, W, sc, a :: b :: as, pos, o, SC, h => by
    have h2 := (andB (show (mE T n X.N e sc a && mL T n X.N .nil sc (b :: as)) = true from h)).2
    cases h2
  | .cons e (.cons e2 r), T, X, W, sc, [a], pos, o, SC, h => by
    have h2 := (andB (show (mE T n X.N e sc a && mL T n X.N (.cons e2 r) sc []) = true from h)).2
    cases h2
  | .cons e (.cons e2 r), T, X, W, sc, a :: b :: as, pos, o, SC, h => by
    obtain ⟨h1, h2⟩ := andB (show (mE T n X.N e sc a && mL T n X.N (.cons e2 r) sc (b :: as)) = true from h)
    have q := sE e o SC h1
    have q2 := sAnd (.cons e2 r) (pos := pos) o SC h2
    exact ⟨e_and2 o q.1 q2.1, t_and2 o q.2 q2.2⟩
theorem sOr : ∀ (e : IL) {T : Nm} {X : Cx} {W : WX} {sc : Scope} {a : List Expr} {pos : Pos}, Good G A T n X W → ScR sc X → mL T n X.N e sc a = true → PE X (.BoolOp .Or a pos) (tD G A X.K W (.bor e)) ∧ PW X (.BoolOp .Or a pos) (tDT G A X.K W (.bor e))
  | .nil, T, _, _, _, [], _, _, _, _ => ⟨⟨fun _ _ _ _ _ _ w => by obtain ⟨g, σd, h, R, S, w⟩ := w; exact w.elim⟩, ⟨fun _ _ _ _ _ _ _ w => by obtain ⟨g, σd, h, R, S, w⟩ := w; exact w.elim⟩⟩
  | .nil, T, _, _, _, _ :: _, _, _, _, h => by cases h
  | .cons e r, T, _, _, _, [], _, _, _, h => by cases h
  | .cons e .nil, T, X, W, sc, [a], pos, o, SC, h => by
    have q := sE e o SC (andB (show (mE T n X.N e sc a && mL T n X.N .nil sc []) = true from h)).1
    exact ⟨(pe_one q.1).imp fun _ _ _ w => w, (pw_or1 q.2).imp fun _ _ _ w => w⟩
  | .cons e .nil, T, X, W, sc, a :: b :: as, pos, o, SC, h => by
    have h2 := (andB (show (mE T n X.N e sc a && mL T n X.N .nil sc (b :: as)) = true from h)).2
    cases h2
  | .cons e (.cons e2 r), T, X, W, sc, [a], pos, o, SC, h => by
    have h2 := (andB (show (mE T n X.N e sc a && mL T n X.N (.cons e2 r) sc []) = true from h)).2
    cases h2
  | .cons e (.cons e2 r), T, X, W, sc, a :: b :: as, pos, o, SC, h => by
    obtain ⟨h1, h2⟩ := andB (show (mE T n X.N e sc a && mL T n X.N (.cons e2 r) sc (b :: as)) = true from h)
    have q := sE e o SC h1
    have q2 := sOr (.cons e2 r) (pos := pos) o SC h2
    exact ⟨e_or2 o q.1 q2.1, t_or2 o q.2 q2.2⟩
theorem sIfs : ∀ (e : IL) {T : Nm} {X : Cx} {sc : Scope} {a : List Expr}, Good G A T n X (fun _ _ _ _ => False) → ScR sc X → mL T n X.N e sc a = true → a.length ≤ 1 → PTs X a (tIfs G A X.K e)
  | .nil, T, _, _, [], _, _, _, _ => ⟨fun pins s σ H Q I ⟨g, σd, h, R, S, w⟩ => pts_nil.run pins s σ H Q I (w g _ (.refl _ _) R)⟩
  | .nil, T, _, _, _ :: _, _, _, h, _ => by cases h
  | .cons e r, T, _, _, [], _, _, h, _ => by cases h
  | .cons e .nil, T, X, sc, [a], o, SC, h, _ => by
    have q := sE e o SC (andB (show (mE T n X.N e sc a && mL T n X.N .nil sc []) = true from h)).1
    refine ⟨fun pins s σ H Q I w0 => (pts_one q.2).run pins s σ H Q I ?_⟩
    obtain ⟨g, σd, h, R, S, w⟩ := w0
    refine stepE (W := fun _ _ _ _ => False) o.mono R S (wpE_F (σ2 := σ) o.mono w) fun x h1 g1 v H1 e1 R1 r1 ⟨c, hx, z⟩ => ?_
    subst hx
    cases r1
    refine ⟨c, rfl, ?_⟩
    cases c with
    | true => rw [if_pos rfl] at z; exact z g1 _ e1 R1
    | false => rw [if_neg (by decide)] at z; exact z g1 _ e1 R1
  | .cons e (.cons e2 r), T, X, sc, [a], o, SC, h, _ => by
    have h2 := (andB (show (mE T n X.N e sc a && mL T n X.N (.cons e2 r) sc []) = true from h)).2
    cases h2
  | .cons e r, T, X, sc, a :: b :: as, o, SC, h, hl => absurd hl (by simp)
theorem sI : ∀ (e : IT) {T : Nm} {X : Cx} {W : WX} {sc : Scope} {a : Expr} {tg : Expr}, Good G A T n X W → ScR sc X → mI T n X.N e sc a = true → PI X tg a (tDI G A X.K W e) ∧ ∀ x, foldedSetIterable a X.env x = pure x
  | .seq e, T, X, W, sc, a, tg, o, SC, h => ⟨i_seq o (sE e o SC h).1, fset_of (mE_plain h)⟩
  | .rng e, T, X, W, sc, a, tg, o, SC, h => by
    unfold mI at h
    split at h
    · obtain ⟨h1, h2⟩ := andB h
      exact ⟨i_rng o SC h1 (sE e o SC h2).1 (mE_plain h2), fun _ => rfl⟩
    · cases h
end
end
end Fb

set_option linter.all false
set_option maxRecDepth 100000
set_option maxHeartbeats 1000000
namespace Fb
open PySem PySem.Spec L2

theorem notB {b : Bool} (h : (!b) = true) : b = false := by cases b <;> first | rfl | exact Bool.noConfusion h
def KP (A : Cl) (K : PySem.W.Frag) (g : Gh) (H : Hp) (W : WX) (D : Ends) : Po where
  nx := fun σd h1 => ∀ g' σ1 H1, Ext g H g' H1 → HRel K g' h1 H1 → RelS K g' H1 σd σ1 → D.nx σ1 H1
  rt := KQ K g H D.rt
  bk := fun σd h1 => ∀ g' σ1 H1, Ext g H g' H1 → HRel K g' h1 H1 → RelS K g' H1 σd σ1 → D.bk σ1 H1
  ct := fun σd h1 => ∀ g' σ1 H1, Ext g H g' H1 → HRel K g' h1 H1 → RelS K g' H1 σd σ1 → D.ct σ1 H1
  ex := fun c fs σd h1 => ∀ g' σ1 cls dd H1, Ext g H g' H1 → HRel K g' h1 H1 → RelS K g' H1 σd σ1 → XRel A K g' H1 c fs cls dd → W cls dd σ1 H1
def tS (G : Prg) (A : Cl) (K : PySem.W.Frag) (W : WX) (s : IS) : TS := fun D σ H => ∃ g σd h, HRel K g h H ∧ RelS K g H σd σ ∧ wpS G s σd h (KP A K g H W D)
def tSs (G : Prg) (A : Cl) (K : PySem.W.Frag) (W : WX) (s : SL) : TS := fun D σ H => ∃ g σd h, HRel K g h H ∧ RelS K g H σd σ ∧ wpSs G s σd h (KP A K g H W D)
theorem _root_.L2.PS.imp {X : Cx} {e : Stmt} {t t' : TS} (h : PS X e t) (f : ∀ D σ H, t' D σ H → t D σ H) : PS X e t' := ⟨fun pins s σ H D I w => h.run pins s σ H D I (f D σ H w)⟩
theorem _root_.L2.PSs.imp {X : Cx} {e : List Stmt} {t t' : TS} (h : PSs X e t) (f : ∀ D σ H, t' D σ H → t D σ H) : PSs X e t' := ⟨fun pins s σ H D I w => h.run pins s σ H D I (f D σ H w)⟩
section
variable {G : Prg} {A : Cl} {K : PySem.W.Frag} {W : WX} {g g1 : Gh} {σd : Sg} {h : DH} {H H1 : Hp} {σ : L2.St} {D : Ends}
theorem KP.up (e : Ext g H g1 H1) : (KP A K g H W D).le (KP A K g1 H1 W D) :=
  ⟨fun σ h w g' σ1 H2 e2 R S => w g' σ1 H2 (e.trans e2) R S, KQ.up e, fun σ h w g' σ1 H2 e2 R S => w g' σ1 H2 (e.trans e2) R S, fun σ h w g' σ1 H2 e2 R S => w g' σ1 H2 (e.trans e2) R S,
    fun c fs σ h w g' σ1 cls dd H2 e2 R S x => w g' σ1 cls dd H2 (e.trans e2) R S x⟩
/-- what is wanted of an exception of an expression -/
theorem exE {e : IE} {Q : QD} (hm : Mono G) (S : RelS K g H σd σ) (w : wpE G e σd h Q ((KP A K g H W D).at σd)) : wpE G e σd h Q (KX A K g H fun c d H' => W c d σ H') :=
  wpE_mono hm e (fun _ _ z => z) (fun c fs h1 z g' cls dd H2 e2 R x => z g' σ cls dd H2 e2 R (S.mono e2) x) w
theorem exE1 {e : IE} {Q : QD} {g0 : Gh} {H0 : Hp} (hm : Mono G) (e1 : Ext g0 H0 g H) (S : RelS K g H σd σ) (w : wpE G e σd h Q ((KP A K g0 H0 W D).at σd)) : wpE G e σd h Q (KX A K g H fun c d H' => W c d σ H') :=
  wpE_mono hm e (fun _ _ z => z) (fun c fs h1 z g' cls dd H2 e2 R x => z g' σ cls dd H2 (e1.trans e2) R (S.mono e2) x) w
theorem exI {e : IT} {Q : Its → DH → Prop} (hm : Mono G) (S : RelS K g H σd σ) (w : wpI G e σd h Q ((KP A K g H W D).at σd)) : wpI G e σd h Q (KX A K g H fun c d H' => W c d σ H') :=
  wpI_mono hm e (fun _ _ z => z) (fun c fs h1 z g' cls dd H2 e2 R x => z g' σ cls dd H2 e2 R (S.mono e2) x) w
end
section
variable {G : Prg} {A : Cl} {T : Nm} {n : Nat} {X : Cx} {W : WX} {pos p : Pos} {j : Nat}
theorem s_nil : PSs X [] (tSs G A X.K W .nil) := pss_nil.imp fun D σ H ⟨g, σd, h, R, S, w⟩ => w g _ _ (.refl _ _) R S
theorem s_cons (o : Good G A T n X W) {s : IS} {r : SL} {a : Stmt} {as : List Stmt} (h1 : PS X a (tS G A X.K W s)) (h2 : PSs X as (tSs G A X.K W r)) : PSs X (a :: as) (tSs G A X.K W (.cons s r)) := by
  refine (pss_cons h1 h2).imp fun D σ H ⟨g, σd, h, R, S, w⟩ => ⟨g, σd, h, R, S, wpS_mono o.mono s ?_ w⟩
  exact ⟨fun σd1 h1 w1 g' σ1 H1 e1 R1 S1 => ⟨g', σd1, h1, R1, S1, wpSs_mono o.mono r (KP.up e1) w1⟩, fun _ _ z => z, fun _ _ z => z, fun _ _ z => z, fun _ _ _ _ z => z⟩
theorem s_expr (o : Good G A T n X W) {e : IE} {a : Expr} (h : PE X a (tD G A X.K W e)) (hp : plainX a = true) (hc : isComp a = false) : PS X (.Expr a pos) (tS G A X.K W (.expr e)) := by
  have hs : swapsWith a none pos.line X.env = pure false := by
    cases a <;> first
      | rfl
      | exact Bool.noConfusion hc
      | exact Bool.noConfusion hp
  exact (ps_expr h hs).imp fun D σ H ⟨g, σd, h, R, S, w⟩ => stepE o.mono R S (exE o.mono S w) fun x h1 g1 v H1 e1 R1 r1 q => q g1 _ _ e1 R1 (S.mono e1)
theorem s_app (o : Good G A T n X W) {a e : IE} {a' e' : Expr} {ap cp : Pos} (ha : PE X a' (tD G A X.K W a)) (he : PE X e' (tD G A X.K W e)) (hpe : plainX e' = true) (hc : isCall0 a' = false) (hl : (ap.endLine == cp.line) = true) :
    PS X (.Expr (.Call (.Attribute a' "append" ap) [e'] [] cp) pos) (tS G A X.K W (.app a e)) := by
  have hb : attributeBase a' "append" X.env (eval a' X.env) = eval a' X.env := by
    cases a' <;> first
      | rfl
      | exact Bool.noConfusion hc
  have hf : ((backTo cp (starEach [e'] X.env)).all (fun x => !x.1) && (backToKw cp (keywordEach [] X.env)).all (fun x => x.1.isSome) && decide ([e'].length + ([] : List Keyword).length + (if ([] : List Keyword).isEmpty then 0 else 1) < 30)) = true := by
    rw [star_of hpe]
    rfl
  refine (ps_expr (pe_bm PySem.F.plainAttrs_list PySem.F.slot_list_append PySem.F.type_list_append mt_append ha (pa_cons he pa_nil (star_of hpe)) hb hf hl (star_of hpe) rfl)).imp fun D σ H ⟨g, σd, h, R, S, w⟩ => ?_
  refine stepE o.mono R S (exE o.mono S w) fun x h1 g1 v H1 e1 R1 r1 q => ?_
  obtain ⟨⟨ds, hd⟩, q⟩ := q
  obtain ⟨b, vs, h5, h6, h7⟩ := lstOf_sq R1 r1 hd
  subst h5
  refine ⟨.inl ⟨rfl, vs, .inl h6⟩, ?_⟩
  refine stepE o.mono R1 (S.mono e1) (exE1 o.mono e1 (S.mono e1) q) fun y h2 g2 u H2 e2 R2 r2 q3 => ?_
  obtain ⟨l, ds', hx, hl', hlen, q4⟩ := q3
  subst hx
  have r1' := r1.mono e2
  cases r1' with
  | ref hio =>
    obtain ⟨a', b1, b2, us, b3, b4⟩ := R2.obj l _ hl'
    rw [hio] at b1
    cases b1
    obtain ⟨e3, R3⟩ := set_mut R2 hl' hio (b4.append (.cons r2 .nil))
    exact ⟨b, us, u, rfl, rfl, b3, by rw [← b4.length, sizeBig]; exact hlen, q4 g2 _ _ ((e1.trans e2).trans e3) R3 (((S.mono e1).mono e2).mono e3)⟩
theorem sw_either {a : Expr} {t : Expr} {l : Nat} {env : Env} (hp : plainX a = true) : swapsWith a (some t) l env = pure false ∨ (isComp a = true ∧ ∃ x px, t = .Name x px ∧ env.kindOf x = some .local ∧ swapsWith a (some t) l env = pure true) := by
  cases a <;> first
    | exact .inl rfl
    | exact Bool.noConfusion hp
    | skip
  rename_i elt gens scope pos
  cases t <;> first
    | exact .inl rfl
    | skip
  rename_i x px
  have e : swapsWith (.ListComp elt gens scope pos) (some (.Name x px)) l env = pure (env.blockKind == .function && env.kindOf x == some .local && px.line == pos.line && !(scope.names.any fun (n, k) => n == x && (k == .local || k == .cell))) := rfl
  rw [e]
  cases hb : (env.blockKind == .function && env.kindOf x == some .local && px.line == pos.line && !(scope.names.any fun (n, k) => n == x && (k == .local || k == .cell))) with
  | false => exact .inl rfl
  | true =>
    refine .inr ⟨rfl, x, px, rfl, ?_, rfl⟩
    have h1 := (andB (andB (andB hb).1).1).2
    simpa using h1
theorem comp_parts (o : Good G A T n X W) (hh : T.hot = false) {sc : Scope} (SC : ScR sc X) {e : IE} {elt' : Expr} {gens : List Comprehension} {scope : Scope} (h : mE T n X.N e sc (.ListComp elt' gens scope pos) = true) :
    ∃ m t it ifs elt tg' it' ifs', e = .comp m t it ifs elt ∧ gens = [⟨tg', it', ifs', 0⟩] ∧ PI X tg' it' (tDI G A X.K W it) ∧ BlkOk X.N X.env.scope scope (ownOf X.N t) ∧
      (∀ (s : Shared) (H : Hp) (C : Addr) (cl : List (Str × Addr)) (fp : List Addr), PG (X.blk s H scope (compEnvC scope cl C X.env) fp) tg' (gT X.K t)) ∧
      (∀ (s : Shared) (H : Hp) (C : Addr) (cl : List (Str × Addr)) (fp : List Addr), PTs (X.blk s H scope (compEnvC scope cl C X.env) fp) ifs' (tIfs G A X.K ifs)) ∧
      (∀ (s : Shared) (H : Hp) (C : Addr) (cl : List (Str × Addr)) (fp : List Addr), PE (X.blk s H scope (compEnvC scope cl C X.env) fp) elt' (tD G A X.K (fun _ _ _ _ => False) elt)) ∧
      (∀ x, foldedSetIterable it' X.env x = pure x) ∧ (ownOf X.N t).map (·.2) = tgIx t := by
  cases e <;> first
    | (exact Bool.noConfusion h; done)
    | skip
  rename_i m t it ifs elt
  unfold mE at h
  split at h
  · rename_i elt2 tg' it' ifs' ay scope2 pos2 heq
    cases heq
    obtain ⟨h, h7⟩ := andB h
    obtain ⟨h, h6⟩ := andB h
    obtain ⟨h, h5⟩ := andB h
    obtain ⟨h, h4⟩ := andB h
    obtain ⟨h, h3⟩ := andB h
    obtain ⟨h, h2⟩ := andB h
    obtain ⟨h0, h1⟩ := andB h
    have e := of_decide_eq_true h1
    subst e
    have bk := blkOk_by h2
    obtain ⟨hi, hpl⟩ := sI it o SC h4 (tg := tg')
    exact ⟨m, t, it, ifs, elt, tg', it', ifs', rfl, rfl, hi, ⟨bk.kind, bk.uniq, bk.ix, fun y hy e => SC.cf _ (bk.free y hy e), bk.own⟩, fun s H C cl fp => pg_tg (o.blk hh s H scope _ fp) hh (ScR.blk s H scope C cl fp) h3,
      fun s H C cl fp => sIfs ifs (o.blk hh s H scope _ fp) (ScR.blk s H scope C cl fp) h5 (of_decide_eq_true h6), fun s H C cl fp => (sE elt (o.blk hh s H scope _ fp) (ScR.blk s H scope C cl fp) h7).1, hpl, own_of h3⟩
  · cases h
theorem asg_read (o : Good G A T n X W) {t : Tg} {e : IE} : ∀ D σ H, tS G A X.K W (.asg t e) D σ H → tAsg (tD G A X.K W e) (gT X.K t) D σ H :=
  fun D σ H ⟨g, σd, h, R, S, w⟩ => stepE o.mono R S (exE o.mono S w) fun x h1 g1 v H1 e1 R1 r1 q => gT_ok (S.mono e1) r1 q fun σd' σ' S' p _ => p g1 _ _ e1 R1 S'
theorem s_asg (o : Good G A T n X W) (hh : T.hot = false) {sc : Scope} (SC : ScR sc X) {t : Tg} {e : IE} {t' e' : Expr} (ht : tgB X.N sc t t' = true) (he : mE T n X.N e sc e' = true) (hn : (isTup t' && (isTup e' || isComp e')) = false) : PS X (.Assign [t'] e' pos) (tS G A X.K W (.asg t e)) := by
  have hp := mE_plain he
  rcases sw_either (t := t') (l := pos.line) (env := X.env) hp with hs | ⟨hc, x, px, hx, hl, hs⟩
  · have hw : swappedStores [t'] e' X.env = pure none := by
      cases t' <;> first
        | rfl
        | (exact Bool.noConfusion ht; done)
        | (cases t <;> exact Bool.noConfusion ht; done)
        | skip
      cases e' <;> first
        | rfl
        | exact Bool.noConfusion hn
    have h1 : (assignEach [t'] X.env).map (·.2) = [assign t' X.env] := by
      cases t' <;> first
        | rfl
        | (cases t <;> exact Bool.noConfusion ht)
    exact (ps_asg (sE e o SC he).1 (pg_tg o hh SC ht) hs hw h1).imp (asg_read o)
  · subst hx
    cases e' <;> first
      | (exact Bool.noConfusion hc; done)
      | skip
    rename_i elt' gens scope cpos
    obtain ⟨m, t2, it, ifs, elt, tg', it', ifs', rfl, rfl, hi, ok, hg, htt, hee, hpl, hown⟩ := comp_parts o hh SC he
    cases t with
    | tp is => cases ht
    | nm i =>
      have hN : X.N[i]? = some x := of_decide_eq_true (andB (show (decide (X.N[i]? = some x) && locB sc x) = true from ht)).1
      refine (ps_setLc (i := i) (own := ownOf X.N t2) (g := gT X.K t2) (tt := tIfs G A X.K ifs) (te := tD G A X.K (fun _ _ _ _ => False) elt) (o.calm hh) o.nd hN hl hs hi ok hg htt hee hpl).imp fun D σ H w => ?_
      rw [hown]
      have w' := asg_read o D σ H w
      exact comp_read o σ H _ w'
theorem s_par (o : Good G A T n X W) (hh : T.hot = false) {sc : Scope} (SC : ScR sc X) (hkind : X.env.blockKind = .function) {i k : Nat} {a b : IE} {x y : Str} {px py tp vp : Pos} {k1 k2 : Nat} {a' b' : Expr} (hi : X.N[i]? = some x) (hj : X.N[k]? = some y) (hij : i ≠ k) (hx : locOnly sc x = true) (hy : locOnly sc y = true) (hxy : (x == y) = false) (hln : (px.line == py.line) = true) (hf1 : [a', b'].all (foldedForSure 8) = false) (hf2 : [a', b'].all (constantsAlone 8) = false)
    (ha : PE X a' (tD G A X.K W a)) (hb : PE X b' (tD G A X.K W b)) (pa : plainX a' = true) (pb : plainX b' = true) : PS X (.Assign [.Tuple [.Name x px, .Name y py] k1 tp] (.Tuple [a', b'] k2 vp) pos) (tS G A X.K W (.par i k a b)) := by
  have lx : X.env.scope.names.lookup x = some .local := by
    unfold locOnly at hx
    split at hx
    · exact SC.ll x (by assumption)
    · cases hx
  have ly : X.env.scope.names.lookup y = some .local := by
    unfold locOnly at hy
    split at hy
    · exact SC.ll y (by assumption)
    · cases hy
  have kx : X.env.kindOf x = some .local := lx
  have ky : X.env.kindOf y = some .local := ly
  have hst : ∀ (f : Expr → Bool), (∀ e, plainX e = true → f e = false) → [a', b'].any f = false := fun f hf => by
    rw [List.any_cons, List.any_cons, hf _ pa, hf _ pb]
    rfl
  have hw : swappedStores [.Tuple [.Name x px, .Name y py] k1 tp] (.Tuple [a', b'] k2 vp) X.env = pure (some [x, y]) := by
    have hl2 : py.line = px.line := by
      have : px.line = py.line := by simpa using hln
      exact this.symm
    have hne : y ≠ x := fun z => by rw [z] at hxy; simp at hxy
    unfold swappedStores
    dsimp only [bind, pure, Sem.bind]
    rw [hst _ (by intro e he; cases e <;> first | rfl | exact Bool.noConfusion he), hf1, hf2]
    simp [hkind, kx, ky, hl2, Expr.pos, List.eraseDups_cons, hne, List.filterMap_cons]
  refine (ps_par (o.calm hh) o.nd hi hj hij lx ly (pa_cons ha (pa_cons hb pa_nil (star_of pb)) (star_of pa)) hw).imp fun D σ H ⟨g, σd, h, R, S, w⟩ => ?_
  refine stepE o.mono R S (exE o.mono S w) fun d1 h1 g1 v H1 e1 R1 r1 q => ?_
  refine stepE o.mono R1 (S.mono e1) (exE1 o.mono e1 (S.mono e1) q) fun d2 h2 g2 u H2 e2 R2 r2 q2 => ?_
  exact ⟨v, u, rfl, q2 g2 _ _ (e1.trans e2) R2 ((((S.mono e1).mono e2).set (r1.mono e2) i).set r2 k)⟩
theorem s_sub (o : Good G A T n X W) {o1 i e : IE} {o' i' e' : Expr} {p2 : Pos} (ho : PE X o' (tD G A X.K W o1)) (hi : PE X i' (tD G A X.K W i)) (he : PE X e' (tD G A X.K W e)) (pi : plainX i' = true) (pe : plainX e' = true) : PS X (.Assign [.Subscript o' i' p2] e' pos) (tS G A X.K W (.sub o1 i e)) := by
  have hs : swapsWithSole [.Subscript o' i' p2] e' pos.line X.env = pure false := by
    cases e' <;> first
      | rfl
      | exact Bool.noConfusion pe
  have hsub : ∀ v, assign (.Subscript o' i' p2) X.env v = (do
      let ov ← holding [v] (eval o' X.env)
      let iv ← holding [v, ov] (eval i' X.env)
      standAt p2
      holding [v, ov, iv] (setItem ov iv v)
      release [v, ov, iv] []) := by
    intro v
    cases i' <;> first
      | rfl
      | exact Bool.noConfusion pi
  refine (ps_asg he (pg_sub ho hi set_list hsub) hs rfl rfl).imp fun D σ H ⟨g, σd, h, R, S, w⟩ => ?_
  refine stepE o.mono R S (exE o.mono S w) fun d1 h1 g1 v H1 e1 R1 r1 q => ?_
  refine stepE o.mono R1 (S.mono e1) (exE1 o.mono e1 (S.mono e1) q) fun d2 h2 g2 u H2 e2 R2 r2 q2 => ?_
  refine stepE o.mono R2 ((S.mono e1).mono e2) (exE1 o.mono (e1.trans e2) ((S.mono e1).mono e2) q2) fun d3 h3 g3 z H3 e3 R3 r3 q3 => ?_
  obtain ⟨l, ds, k, j, hx, hl, hk, hj, q4⟩ := q3
  subst hx
  subst hk
  cases r3
  cases (r2.mono e3) with
  | @ref _ b hio =>
    obtain ⟨a', b1, b2, us, b3, b4⟩ := R3.obj l _ hl
    rw [hio] at b1
    cases b1
    obtain ⟨e4, R4⟩ := set_mut R3 hl hio (b4.set ((r1.mono e2).mono e3) j)
    exact ⟨b, us, k, j, rfl, rfl, b3, by rw [← b4.length]; exact hj, q4 g3 _ _ (((e1.trans e2).trans e3).trans e4) R4 ((((S.mono e1).mono e2).mono e3).mono e4)⟩
theorem s_if (o : Good G A T n X W) {c : IE} {a b : SL} {c' : Expr} {a' b' : List Stmt} (hc : PT X c' (tDT G A X.K W c)) (ha : PSs X a' (tSs G A X.K W a)) (hb : PSs X b' (tSs G A X.K W b)) : PS X (.If c' a' b' pos) (tS G A X.K W (.ifs c a b)) := by
  refine (ps_if hc ha hb).imp fun D σ H ⟨g, σd, h, R, S, w⟩ => ?_
  refine stepE o.mono R S (exE o.mono S w) fun d1 h1 g1 v H1 e1 R1 r1 ⟨c, hx, q⟩ => ?_
  subst hx
  cases r1
  refine ⟨c, rfl, ?_⟩
  cases c with
  | true => rw [if_pos rfl] at q ⊢; exact ⟨g1, σd, h1, R1, S.mono e1, wpSs_mono o.mono a (KP.up e1) q⟩
  | false => rw [if_neg (by decide)] at q ⊢; exact ⟨g1, σd, h1, R1, S.mono e1, wpSs_mono o.mono b (KP.up e1) q⟩
theorem s_for (o : Good G A T n X W) (hh : T.hot = false) {t : Tg} {it : IT} {body : SL} {t' it' : Expr} {body' : List Stmt} (hi : PI X t' it' (tDI G A X.K W it)) (hg : PG X t' (gT X.K t)) (hb : PSs X body' (tSs G A X.K W body)) (hs : ∀ x, foldedSetIterable it' X.env x = pure x) : PS X (.For t' it' body' [] pos) (tS G A X.K W (.for_ t it body)) := by
  refine (ps_for o.po (o.calm hh) hi hg hb hs).imp fun D σ H ⟨g, σd, h, R, S, w⟩ => ?_
  refine stepI o.mono R S (exI o.mono S w) fun its h1 g1 H1 J e1 R1 wk q => ?_
  let Pv : Nat → L2.St → Hp → Prop := fun i σ' H' => ∃ g' h' σd', Ext g1 H1 g' H' ∧ HRel X.K g' h' H' ∧ RelS X.K g' H' σd' σ' ∧ forL (fun d σ h P => asgN t d σ fun σ1 => wpSs G body σ1 h P) its.keep (KP A X.K g H W D) (its.ds.drop i) σd' h'
  refine ⟨fun i k σ' H' => k = its.ds.length - i ∧ i ≤ its.ds.length ∧ Pv i σ' H', ⟨its.ds.length, by simp, Nat.zero_le _, g1, h1, σd, .refl _ _, R1, S.mono e1, by rw [List.drop_zero]; exact q⟩, ?_⟩
  rintro i k σ' H' ⟨rfl, hi, g', h', σd', eP, RP, SP, wP⟩
  by_cases hlt : i < its.ds.length
  · obtain ⟨d, hd⟩ : ∃ d, its.ds[i]? = some d := ⟨_, List.getElem?_eq_getElem hlt⟩
    have hdr : its.ds.drop i = d :: its.ds.drop (i + 1) := by
      rw [List.drop_eq_getElem_cons hlt]
      rw [List.getElem?_eq_getElem hlt] at hd
      rw [Option.some.inj hd]
    rw [hdr] at wP
    obtain ⟨hkeep, wP⟩ := wP
    obtain ⟨hgo, hy⟩ := wk.go _ H' h' i d eP RP hkeep hd
    refine .inr ⟨hgo, Pv (i + 1), fun σ'' H'' p => ⟨_, by omega, rfl, hlt, p⟩, fun x H'' y => ?_⟩
    obtain ⟨gy, ey, Ry, ry⟩ := hy x H'' y
    refine gT_ok (SP.mono ey) ry wP fun σd1 σ2 S2 p2 _ => ?_
    refine ⟨gy, σd1, h', Ry, S2, wpSs_mono o.mono body ?_ p2⟩
    have e3 := eP.trans ey
    have e4 := e1.trans e3
    refine ⟨fun σ5 h5 w5 g5 τ H5 e5 R5 S5 => ⟨g5, h5, σ5, e3.trans e5, R5, S5, w5⟩, KQ.up e4, fun σ5 h5 w5 g5 τ H5 e5 R5 S5 => w5 g5 τ H5 (e4.trans e5) R5 S5, fun σ5 h5 w5 g5 τ H5 e5 R5 S5 => ⟨g5, h5, σ5, e3.trans e5, R5, S5, w5⟩, fun c fs σ5 h5 w5 g5 τ cls dd H5 e5 R5 S5 x5 => w5 g5 τ cls dd H5 (e4.trans e5) R5 S5 x5⟩
  · have e : i = its.ds.length := by omega
    subst e
    rw [List.drop_length] at wP
    exact .inl ⟨wk.stop g' H' h' eP RP wP.1, wP.2 g' _ _ (e1.trans eP) RP SP⟩
theorem s_while (o : Good G A T n X W) {c : IE} {body : SL} {c' : Expr} {body' : List Stmt} (hc : PT X c' (tDT G A X.K W c)) (hb : PSs X body' (tSs G A X.K W body)) : PS X (.While c' body' [] pos) (tS G A X.K W (.whl c body)) := by
  refine (ps_while o.po hc hb).imp fun D σ H ⟨g, σd, h, R, S, w⟩ => ?_
  obtain ⟨Wv, ⟨m0, w0⟩, turn⟩ := w
  refine ⟨fun m σ' H' => ∃ g' h' σd', Ext g H g' H' ∧ HRel X.K g' h' H' ∧ RelS X.K g' H' σd' σ' ∧ Wv m σd' h', ⟨m0, g, h, σd, .refl _ _, R, S, w0⟩, ?_⟩
  rintro m σ' H' ⟨g', h', σd', eP, RP, SP, wP⟩
  refine stepE o.mono RP SP (exE1 o.mono eP SP (turn m σd' h' wP)) fun d1 h1 g1 v H1 e1 R1 r1 ⟨c, hx, q⟩ => ?_
  subst hx
  cases r1
  refine ⟨c, rfl, ?_⟩
  have e01 := eP.trans e1
  cases c with
  | true =>
    rw [if_pos rfl] at q
    dsimp only
    rw [if_pos rfl]
    refine ⟨fun σ5 H5 => ∃ m', m' < m ∧ ∃ g' h' σd', Ext g H g' H5 ∧ HRel X.K g' h' H5 ∧ RelS X.K g' H5 σd' σ5 ∧ Wv m' σd' h', fun σ5 H5 z => z, g1, σd', h1, R1, SP.mono e1, wpSs_mono o.mono body ?_ q⟩
    exact ⟨fun σ5 h5 ⟨m', hm, w5⟩ g5 τ H5 e5 R5 S5 => ⟨m', hm, g5, h5, σ5, e01.trans e5, R5, S5, w5⟩, KQ.up e01, fun σ5 h5 w5 g5 τ H5 e5 R5 S5 => w5 g5 τ H5 (e01.trans e5) R5 S5, fun σ5 h5 ⟨m', hm, w5⟩ g5 τ H5 e5 R5 S5 => ⟨m', hm, g5, h5, σ5, e01.trans e5, R5, S5, w5⟩, fun c fs σ5 h5 w5 g5 τ cls dd H5 e5 R5 S5 x5 => w5 g5 τ cls dd H5 (e01.trans e5) R5 S5 x5⟩
  | false =>
    rw [if_neg (by decide)] at q
    dsimp only
    rw [if_neg (by decide)]
    exact q g1 _ _ e01 R1 (SP.mono e1)
theorem s_ret (o : Good G A T n X W) {f : Bool} {e : IE} {a : Expr} (h : PE X a (tD G A X.K W e)) : PS X (.Return (some a) pos) (tS G A X.K W (.ret f e)) := by
  refine (ps_ret h).imp fun D σ H ⟨g, σd, h, R, S, w⟩ => ?_
  refine stepE o.mono R S (exE o.mono S w) fun x h1 g1 v H1 e1 R1 r1 q => ?_
  cases f with
  | false => rw [if_neg (by decide)] at q; exact q g1 _ _ e1 R1 r1
  | true =>
    rw [if_pos rfl] at q
    cases r1 with
    | @ref l a hio =>
      cases hl : h1 l with
      | none => simp only [frzD, hl] at q; exact q g1 _ _ e1 R1 (.ref hio)
      | some ob =>
        cases ob with
        | lst ds =>
          simp only [frzD, hl] at q
          obtain ⟨g2, e2, R2, r2⟩ := frz_mut R1 hl hio
          exact q g2 _ _ (e1.trans e2) R2 r2
        | ins _ _ _ => simp only [frzD, hl] at q; exact q g1 _ _ e1 R1 (.ref hio)
        | dic _ => simp only [frzD, hl] at q; exact q g1 _ _ e1 R1 (.ref hio)
    | exc z1 z2 => exact q g1 _ _ e1 R1 (.exc z1 z2)
    | obj z1 z2 z3 z4 => exact q g1 _ _ e1 R1 (.obj z1 z2 z3 z4)
    | clo z1 z2 z3 => exact q g1 _ _ e1 R1 (.clo z1 z2 z3)
    | non => exact q g1 _ _ e1 R1 .non
    | bl b => exact q g1 _ _ e1 R1 (.bl b)
    | int b => exact q g1 _ _ e1 R1 (.int b)
    | str b => exact q g1 _ _ e1 R1 (.str b)
    | tup z1 z2 => exact q g1 _ _ e1 R1 (.tup z1 z2)
    | lst z1 z2 => exact q g1 _ _ e1 R1 (.lst z1 z2)
structure FnX (X : Cx) : Prop where
  bk : X.env.blockKind = .function
  st : X.stack = X.env :: X.outer
  fm : X.env.frame = some X.env.locals
theorem Good.tr (o : Good G A T n X W) (hh : T.hot = false) {W' : WX} {ps : List (Addr × Obj)} {xe : Value → Shared → Prop} (tk : Takes (X.tr ps xe) W') (po : PassesOwn (model X.prog X.w) X.A X.env xe) : Good G A T n (X.tr ps xe) W' :=
  ⟨o.mono, o.calm, o.room, o.roomR, o.un, o.nd, tk, o.con, o.fns, o.blt, po, o.cls, o.sub, o.cf, fun z => absurd (hh.symm.trans z) (by decide), o.xf, o.mkx, o.act, o.tks, o.tabs⟩
theorem RelDs.rev {K : PySem.W.Frag} {g : Gh} {H : Hp} : ∀ {ds : List Fb.D} {vs : List V}, RelDs K g H ds vs → RelDs K g H ds.reverse vs.reverse
  | _, _, .nil => .nil
  | _, _, .cons r t => by
    rw [List.reverse_cons, List.reverse_cons]
    exact (RelDs.rev t).append (.cons r .nil)
theorem adopt_fz {K : PySem.W.Frag} {g : Gh} {h : DH} {H : Hp} {p : Addr} (lo : Loose g p) (hp : H p ≠ none) (ht : ∀ ps, H p ≠ some (.tbl ps)) (R : HRel K g h H) : ∃ g', Ext g H g' H ∧ HRel K g' h H ∧ g'.fz p := by
  have e : Ext g H ⟨g.io, fun a => g.fz a ∨ a = p, g.ow⟩ H := ⟨⟨fun _ _ z => z, fun _ z => .inl z, fun _ _ => rfl, fun _ _ z => z, fun _ _ _ z => z⟩, fun _ z => z, fun _ _ => rfl⟩
  refine ⟨⟨g.io, fun a => g.fz a ∨ a = p, g.ow⟩, e, ⟨fun l o' hl => ?_, R.inj, R.liv, fun a q z => ?_, R.owl, fun a q z => ?_, R.owio, R.fin, R.tab, fun a ps z => ⟨fun q => q.elim (R.tbl a ps z).fz fun q => ht ps (q ▸ z), (R.tbl a ps z).ow, (R.tbl a ps z).io⟩, R.owx⟩, .inr rfl⟩
  · obtain ⟨a, h1, h2, h3⟩ := R.obj l o' hl
    exact ⟨a, h1, fun z => z.elim h2 fun z => lo.io l (z ▸ h1), h3.mono e rfl⟩
  · rcases q with q | q
    · exact R.fzl a q z
    · rw [q] at z; exact hp z
  · rcases z with z | z
    · exact R.owf a q z
    · exact lo.ow (z ▸ q)
theorem pmk_own0 {x : Str} {C : Addr} {bmB : List Value} {B newId initId : String} (F : ExcBaseFacts B newId initId bmB) (q : PySem.W.excIn X.K C bmB newId = true) (gC : X.mg x = some (.ref C)) (kC : PySem.W.keepIn X.K (.ref C) = true) (r : Raises X (.ref C)) (hg : Gl X x) (hdb : (x == ("__debug__" : Str)) = false) :
    PMk X (.Call (.Name x p) [] [] pos) (fun _ H Q => Q (.ref C) none H) := by
  intro pins s z H Q I h
  refine wpAny_Call_Name_kw (ld_glob I hg gC ?_ hdb)
  refine PySem.W.callWith_KW0 (h₀ := X.base) I.ok.mod.kin kC (by rfl) ?_ (by rfl)
  refine thn ((pk_nil (X := X)).run pos pins s z H (fun vs H1 => vs = [] ∧ H1 = H) I ⟨rfl, rfl⟩) fun us s1 hh => ?_
  obtain ⟨vs, H1, I1, r1, ev, eH⟩ := hh
  subst ev
  subst eH
  refine ⟨I1.kIn, ?_⟩
  cases r1
  show wpAny _ _ (call (.ref C) []) _ _ _
  obtain ⟨bm, N, nm, qn, bs, hdct, sn, sub, ab, col, dd, k0, k1, k2, k3, k5, mN, hC, hN, hni, Tl⟩ := exc_obj I1.kIn q
  refine wpAny_call_exc_subT F Tl hC hN hni (fun h' e hm => ?_) (by show 0 ≤ sizeLine; exact Nat.zero_le _)
  exact mk_of I1 hm r h (I1.hok.gone hm.new)
theorem exL {K : PySem.W.Frag} {g : Gh} {zd : Sg} {h : DH} {H : Hp} {z : L2.St} {D : Ends} {e : IL} {Q : List Fb.D → DH → Prop} (hm : Mono G) (S : RelS K g H zd z) (w : wpL G e zd h Q ((KP A K g H W D).at zd)) : wpL G e zd h Q (KX A K g H fun c d H' => W c d z H') :=
  wpL_mono hm e (fun _ _ z => z) (fun c fs h1 z g' cls dd H2 e2 R x => z g' _ cls dd H2 e2 R (S.mono e2) x) w
theorem cls_of {c : Nat} {x : Str} {sc : Scope} (SC : ScR sc X) (h : clsB T sc c x = true) : T.cls[c]? = some x ∧ Gl X x ∧ (x == ("__debug__" : Str)) = false := by
  obtain ⟨h, h3⟩ := andB h
  obtain ⟨h1, h2⟩ := andB h
  exact ⟨of_decide_eq_true h1, SC.gl _ h2, (dbg_of h3).1⟩
theorem s_raise (o : Good G A T n X W) (hh : T.hot = false) (hmd : T.md < 2) {sc : Scope} (SC : ScR sc X) {c : Nat} {x : Str} {as : IL} {as' : List Expr} {p1 p2 : Pos} (hx : clsB T sc c x = true) (ha : PA X as' (tDL G A X.K W as)) (hp : ∀ a ∈ as', plainX a = true) (hl : as.length = as'.length) :
    PS X (.Raise (some (.Call (.Name x p1) as' [] p2)) none pos) (tS G A X.K W (.raise c as)) := by
  obtain ⟨hT, hg, hdb⟩ := cls_of SC hx
  obtain ⟨C, hA, cf⟩ := o.cls c x hT
  have rs : Raises X (.ref C) := raises_own cf.rs cf.ty
  have xr : ∀ {g : Gh} {H : Hp}, G.cfld c = [] → XRel A X.K g H c [] (.ref C) none := fun _ => ⟨C, hA, rfl, .inl ⟨rfl, rfl⟩⟩
  cases o.mkx c C hA with
  | bare F q hn =>
    cases as' with
    | cons a r =>
      refine (ps_raise (o.calm hh) o.tk (pmk_ownA F q cf.gl cf.kp rs hg ha hdb (star_of (hp a List.mem_cons_self)) (star_any fun b hb => hp b (List.mem_cons_of_mem _ hb)))).imp fun D z H ⟨g, zd, h, R, S, w⟩ => ?_
      refine stepL o.mono R S (exL o.mono S (wpL_len o.mono as w)) fun ds h1 g1 vs H1 e1 R1 r1 q => ?_
      obtain ⟨q1, q2, _⟩ := q
      rw [q1, hl, hn] at q2
      cases q2
    | nil =>
      refine (ps_raise (o.calm hh) o.tk (pmk_own0 F q cf.gl cf.kp rs hg hdb)).imp fun D z H ⟨g, zd, h, R, S, w⟩ => ?_
      cases as with
      | cons _ _ => cases hl
      | nil =>
        have w' : ([] : List Fb.D).length = (G.cfld c).length ∧ (KP A X.K g H W D).ex c [] zd h := w
        exact w'.2 g z (.ref C) none H (.refl _ _) R S (xr hn)
  | @init fI fd ps hi F hn =>
    cases as' with
    | nil =>
      refine (ps_raise (o.calm hh) o.tk (W := W) (e := .Call (.Name x p1) [] [] p2) (t := fun _ _ _ => False) (fun _ _ _ _ _ _ w => w.elim)).imp fun D z H ⟨g, zd, h, R, S, w⟩ => ?_
      cases as with
      | cons _ _ => cases hl
      | nil =>
        have w' : ([] : List Fb.D).length = (G.cfld c).length ∧ (KP A X.K g H W D).ex c [] zd h := w
        exact hn (List.eq_nil_of_length_eq_zero w'.1.symm)
    | cons a r =>
      refine (ps_raise (o.calm hh) o.tk (pmk_oex hi.oc hi.at_ hi.ty F ((o.roomR hh hmd).mono (by omega)) hi.bd .nil (fun _ _ _ _ _ _ _ z => False.elim z) hg cf.gl ha hdb (star_of (hp a List.mem_cons_self)) (star_any fun b hb => hp b (List.mem_cons_of_mem _ hb)))).imp fun D z H ⟨g, zd, h, R, S, w⟩ => ?_
      refine stepL o.mono R S (exL o.mono S (wpL_len o.mono as w)) fun ds h1 g1 vs H1 e1 R1 r1 q => ?_
      obtain ⟨q1, q2, q3⟩ := q
      have lv : vs.length = (G.cfld c).length := by rw [← r1.length]; exact q2
      refine ⟨by have := hi.len; omega, fun e he => ?_⟩
      · refine ⟨e, vs, by rw [List.append_nil], lv, upd_same, fun d H2 hd hne h3 h4 h5 => ⟨rfl, d, _, h3, h4, ?_, ?_⟩⟩
        · rw [upd_ne hne] at hd
          exact hd
        · have hd1 : H1 d = none := by rw [upd_ne hne] at hd; exact hd
          have eq : upd (L2.del H2 e) d (.xd ((G.cfld c).zip vs.reverse)) = upd H1 d (.xd ((G.cfld c).zip vs.reverse)) := by
            funext b
            by_cases hb : b = d
            · rw [hb, upd_same, upd_same]
            · rw [upd_ne hb, upd_ne hb]
              by_cases hb2 : b = e
              · rw [hb2, L2.del_same, he]
              · rw [L2.del_ne hb2, h5 b hb2 hb, upd_ne hb2]
          rw [eq]
          obtain ⟨e2, R2⟩ := new_any (o := .xd ((G.cfld c).zip vs.reverse)) hd1 R1
          obtain ⟨g3, e3, R3, f3⟩ := adopt_fz (p := d) (R1.loose hd1) (by rw [upd_same]; exact fun z => nomatch z) (fun ps z => by rw [upd_same] at z; cases z) R2
          have e123 := e1.trans (e2.trans e3)
          refine q3 g3 z (.ref C) (some d) _ e123 R3 (S.mono e123) ⟨C, hA, rfl, .inr ⟨d, vs.reverse, rfl, f3, ?_, ((r1.mono (e2.trans e3)).rev), ?_⟩⟩
          · rw [upd_same, o.cf]
          · rw [List.length_reverse, lv, o.cf]
/-- a clause's suite -/
def tsOf (G : Prg) (A : Cl) (K : PySem.W.Frag) (hd : Hd) : Suite := fun a cls d D z H => ∃ c C, A.cadr c = some C ∧ cls = .ref C ∧ tD { G with exc := fun a' d' c' => a' = a ∧ d' = d ∧ c' = c } A K (fun _ _ _ _ => False) hd.e z H D.rt
theorem suite_ok (o : Good G A T n X W) {sc : Scope} (SC : ScR sc X) {hd : Hd} {e : Expr} {p1 : Pos} (hm : mE { T with hot := true } n X.N hd.e sc e = true) : SuiteOk X [.Return (some e) p1] (tsOf G A X.K hd) := by
  intro a ob cls d ps hz hf
  refine ⟨fun pins s z H D I w => ?_⟩
  obtain ⟨c, C, hA, ec, w⟩ := w
  subst ec
  have og : Good { G with exc := fun a' d' c' => a' = a ∧ d' = d ∧ c' = c } A { T with hot := true } n (X.suite a ((a, ob) :: ps)) (fun _ _ _ _ => False) :=
    ⟨⟨o.mono.sp, o.mono.act, o.mono.tk⟩, (fun z => nomatch z), (fun z => nomatch z), (fun z => nomatch z), o.un, o.nd, takesF, o.con, o.fns, o.blt, PassesOwn.never, o.cls, o.sub, o.cf, fun _ a' d' c' ⟨e1, e2, e3⟩ => by
      subst e1 e2 e3
      exact ⟨ob, C, List.mem_cons_self, hz, hf, hA⟩, o.xf, o.mkx, (fun z => nomatch z), (fun z => nomatch z), (fun z => nomatch z)⟩
  have sc' : ScR sc (X.suite a ((a, ob) :: ps)) := ⟨SC.vis, SC.loc, SC.gl, SC.cf, SC.ll⟩
  exact (pss_one (ps_ret (sE hd.e og sc' hm).1)).run pins s z H D I w
theorem hds_ok (o : Good G A T n X W) (hh : T.hot = false) {sc : Scope} (SC : ScR sc X) : ∀ {hs : List Hd} {hs' : List ExceptHandler}, mH T n X.N hs sc hs' = true → ∃ l, HdM X hs' l ∧
    ∀ (g : Gh) (H : Hp) (D : Ends) (c : Nat) (fs : List Fb.D) (zd : Sg) (h1 : DH), wpH G (KP A X.K g H W D) hs c fs zd h1 → ∀ g' z cls dd H1, Ext g H g' H1 → HRel X.K g' h1 H1 → RelS X.K g' H1 zd z → XRel A X.K g' H1 c fs cls dd → wMix X.K W D l cls dd z H1
  | [], [], _ => ⟨[], .nil, fun g H D c fs zd h1 w g' z cls dd H1 e R S x => w g' z cls dd H1 e R S x⟩
  | hd :: r, hs', hm => by
    unfold mH at hm
    split at hm
    · exact absurd ‹hd :: r = []› (by simp)
    · rename_i hd2 r2 x np nm e p2 pos' as heq
      cases heq
      obtain ⟨hm, hm4⟩ := andB hm
      obtain ⟨hm, hm3⟩ := andB hm
      obtain ⟨hm1, hm2⟩ := andB hm
      obtain ⟨l, hl, rel⟩ := hds_ok o hh SC hm4
      obtain ⟨hT, hg, hdb⟩ := cls_of SC hm1
      obtain ⟨C, hA, cf⟩ := o.cls _ x hT
      have nmok : NmOk X hd.i nm := by
        cases hi : hd.i with
        | none =>
          cases nm with
          | none => trivial
          | some y => rw [hi] at hm2; cases hm2
        | some i =>
          cases nm with
          | none => rw [hi] at hm2; cases hm2
          | some y =>
            rw [hi] at hm2
            obtain ⟨k1, k2⟩ := andB hm2
            refine ⟨of_decide_eq_true k1, SC.ll y ?_⟩
            unfold locOnly at k2
            split at k2
            · assumption
            · cases k2
      refine ⟨(.ref C, hd.i, tsOf G A X.K hd) :: l, .cons ⟨hg, hdb, .inl cf.gl⟩ nmok (suite_ok o SC hm3) hl, fun g H D c fs zd h1 w g' z cls dd H1 e R S x => ?_⟩
      obtain ⟨C', hA', ec, hx⟩ := id x
      subst ec
      refine ⟨G.sub c hd.c, o.sub c hd.c C' C hA' hA, fun hb a ha => ?_, fun hb => ?_⟩
      · unfold wpH at w
        rw [if_pos hb] at w
        have w2 := w a dd
        have wq : ∀ (zd' : Sg) (z' : L2.St) (D' : Ends), D'.rt = D.rt → RelS X.K g' H1 zd' z' → wpE { G with exc := fun a' d' c' => a' = a ∧ d' = dd ∧ c' = c } hd.e zd' h1 (KP A X.K g H W D).rt (fun _ _ _ => False) → tsOf G A X.K hd a (.ref C') dd D' z' H1 := fun zd' z' D' hr S' w' => by
          refine ⟨c, C', hA', rfl, g', zd', h1, R, S', ?_⟩
          rw [hr]
          exact wpE_mono (G := { G with exc := fun a' d' c' => a' = a ∧ d' = dd ∧ c' = c }) ⟨o.mono.sp, o.mono.act, o.mono.tk⟩ hd.e (KQ.up e) (fun _ _ _ z => False.elim z) w'
        cases hi : hd.i with
        | none =>
          rw [hi] at w2
          exact wq zd z D rfl S w2
        | some i =>
          rw [hi] at w2
          refine wq _ _ (endsAs i D) rfl (S.set (d := .exc a dd c (G.cfld c) fs) (v := .ref a) ?_ i) w2
          rcases hx with ⟨e1, e2⟩ | ⟨d, vs, e1, f1, h3, h4, h5⟩
          · exact .exc (vs := []) (.inl ⟨e2, e1⟩) (by rw [e1]; exact .nil)
          · exact .exc (.inr ⟨d, e1, f1, by rw [← o.cf]; exact h3, by rw [← o.cf, h5]⟩) h4
      · unfold wpH at w
        rw [if_neg (by rw [hb]; decide)] at w
        exact rel g H D c fs zd h1 w g' z _ dd H1 e R S x
    · cases hm
theorem s_try (o : Good G A T n X W) (hh : T.hot = false) {sc : Scope} (SC : ScR sc X) (bk : FnX X) {body : SL} {hs : List Hd} {body' : List Stmt} {hs' : List ExceptHandler}
    (hb : ∀ (W' : WX) (ps : List (Addr × Obj)) (xe : Value → Shared → Prop), Takes (X.tr ps xe) W' → PassesOwn (model X.prog X.w) X.A X.env xe → PSs (X.tr ps xe) body' (tSs G A X.K W' body))
    (hm : mH T n X.N hs sc hs' = true) (hne : hs ≠ []) : PS X (.Try body' hs' [] [] pos) (tS G A X.K W (.try_ body hs)) := by
  obtain ⟨l, hl, rel⟩ := hds_ok o hh SC hm
  cases hs' with
  | nil =>
    cases hs with
    | nil => exact absurd rfl hne
    | cons _ _ => cases hm
  | cons h0 hs2 =>
    refine (ps_try_mix (pos := pos) o.tk bk.st bk.fm o.nd hb hl).imp fun D z H ⟨g, zd, h, R, S, w⟩ => ⟨g, zd, h, R, S, wpSs_mono o.mono body ?_ w⟩
    exact ⟨fun _ _ q => q, fun _ _ q => q, fun _ _ q => q, fun _ _ q => q, fun c fs zd1 h1 q g' z1 cls dd H1 e R1 S1 x => rel g H D c fs zd1 h1 q g' z1 cls dd H1 e R1 S1 x⟩
mutual
theorem sS (hh : T.hot = false) : ∀ (s : IS) {X : Cx} {W : WX} {sc : Scope} {a : Stmt}, Good G A T n X W → ScR sc X → FnX X → mS T n X.N s sc a = true → PS X a (tS G A X.K W s)
  | .fset _ _ _, X, W, sc, a, o, SC, bk, h => by cases h
  | .never, X, W, sc, a, o, SC, bk, h => ps_never.imp fun D σ H ⟨g, σd, h, R, S, w⟩ => w.elim
  | .expr e, X, W, sc, a, o, SC, bk, h => by
    unfold mS at h
    split at h
    · obtain ⟨h1, h2⟩ := andB h
      exact s_expr o (sE e o SC h1).1 (mE_plain h1) (by simpa using h2)
    · cases h
  | .app a e, X, W, sc, s, o, SC, bk, h => by
    unfold mS at h
    split at h
    · obtain ⟨h, h5⟩ := andB h
      obtain ⟨h, h4⟩ := andB h
      obtain ⟨h, h3⟩ := andB h
      obtain ⟨h1, h2⟩ := andB h
      have e := beq_of h1
      subst e
      exact s_app o (sE a o SC h3).1 (sE _ o SC h4).1 (mE_plain h4) (by simpa using h5) h2
    · cases h
  | .asg tg e, X, W, sc, s, o, SC, bk, h => by
    unfold mS at h
    split at h
    · obtain ⟨h12, h3⟩ := andB h
      obtain ⟨h1, h2⟩ := andB h12
      exact s_asg o hh SC h1 h2 (notB h3)
    · cases h
  | .par i j a b, X, W, sc, s, o, SC, bk, h => by
    unfold mS at h
    split at h
    · obtain ⟨h, h9⟩ := andB h
      obtain ⟨h, h8⟩ := andB h
      obtain ⟨h, h11⟩ := andB h
      obtain ⟨h, h10⟩ := andB h
      obtain ⟨h, h7⟩ := andB h
      obtain ⟨h, h6⟩ := andB h
      obtain ⟨h, h5⟩ := andB h
      obtain ⟨h, h4⟩ := andB h
      obtain ⟨h, h3⟩ := andB h
      obtain ⟨h1, h2⟩ := andB h
      exact s_par o hh SC bk.bk (of_decide_eq_true h1) (of_decide_eq_true h2) (of_decide_eq_true h3) h4 h5 (by simpa using h6) h7 (notB h10) (notB h11) (sE a o SC h8).1 (sE b o SC h9).1 (mE_plain h8) (mE_plain h9)
    · cases h
  | .sub o1 i e, X, W, sc, s, o, SC, bk, h => by
    unfold mS at h
    split at h
    · obtain ⟨h12, h3⟩ := andB h
      obtain ⟨h1, h2⟩ := andB h12
      exact s_sub o (sE o1 o SC h1).1 (sE i o SC h2).1 (sE e o SC h3).1 (mE_plain h2) (mE_plain h3)
    · cases h
  | .ifs c a b, X, W, sc, s, o, SC, bk, h => by
    unfold mS at h
    split at h
    · obtain ⟨h12, h3⟩ := andB h
      obtain ⟨h1, h2⟩ := andB h12
      exact s_if o (sE c o SC h1).2 (sSs hh a o SC bk h2) (sSs hh b o SC bk h3)
    · cases h
  | .for_ tg it body, X, W, sc, s, o, SC, bk, h => by
    unfold mS at h
    split at h
    · obtain ⟨h12, h3⟩ := andB h
      obtain ⟨h1, h2⟩ := andB h12
      obtain ⟨q1, q2⟩ := sI it o SC h2
      exact s_for o hh q1 (pg_tg o hh SC h1) (sSs hh body o SC bk h3) q2
    · cases h
  | .whl c body, X, W, sc, s, o, SC, bk, h => by
    unfold mS at h
    split at h
    · obtain ⟨h1, h2⟩ := andB h
      exact s_while o (sE c o SC h1).2 (sSs hh body o SC bk h2)
    · cases h
  | .ret f e, X, W, sc, s, o, SC, bk, h => by
    unfold mS at h
    split at h
    · exact s_ret o (sE e o SC h).1
    · cases h
  | .retN, X, W, sc, s, o, SC, bk, h => by
    unfold mS at h
    split at h
    · exact ps_retN.imp fun D σ H ⟨g, σd, h, R, S, w⟩ => w g _ _ (.refl _ _) R .non
    · cases h
  | .pass, X, W, sc, s, o, SC, bk, h => by
    unfold mS at h
    split at h
    · exact ps_pass.imp fun D σ H ⟨g, σd, h, R, S, w⟩ => w g _ _ (.refl _ _) R S
    · cases h
  | .brk, X, W, sc, s, o, SC, bk, h => by
    unfold mS at h
    split at h
    · exact ps_break.imp fun D σ H ⟨g, σd, h, R, S, w⟩ => w g _ _ (.refl _ _) R S
    · cases h
  | .cont, X, W, sc, s, o, SC, bk, h => by
    unfold mS at h
    split at h
    · exact ps_continue.imp fun D σ H ⟨g, σd, h, R, S, w⟩ => w g _ _ (.refl _ _) R S
    · cases h
  | .raise c es, X, W, sc, s, o, SC, bk, h => by
    unfold mS at h
    split at h
    · obtain ⟨h, h3⟩ := andB h
      obtain ⟨h1, h2⟩ := andB h
      exact s_raise o hh (of_decide_eq_true h3) SC h1 (sL es o SC h2) (mL_plain h2) (mL_len h2)
    · cases h
  | .try_ body hs, X, W, sc, s, o, SC, bk, h => by
    unfold mS at h
    split at h
    · obtain ⟨h, h3⟩ := andB h
      obtain ⟨h1, h2⟩ := andB h
      exact s_try o hh SC bk (fun W' ps xe tk po => sSs hh body (o.tr hh tk po) ⟨SC.vis, SC.loc, SC.gl, SC.cf, SC.ll⟩ ⟨bk.bk, bk.st, bk.fm⟩ h1) h2 (by simpa using h3)
    · cases h
theorem sSs (hh : T.hot = false) : ∀ (s : SL) {X : Cx} {W : WX} {sc : Scope} {a : List Stmt}, Good G A T n X W → ScR sc X → FnX X → mSs T n X.N s sc a = true → PSs X a (tSs G A X.K W s)
  | .nil, _, _, _, [], _, _, _, _ => s_nil
  | .nil, _, _, _, _ :: _, _, _, _, h => by cases h
  | .cons e r, _, _, _, [], _, _, _, h => by cases h
  | .cons e r, X, W, sc, a :: as, o, SC, bk, h => by
    obtain ⟨h1, h2⟩ := andB (show (mS T n X.N e sc a && mSs T n X.N r sc as) = true from h)
    exact s_cons o (sS hh e o SC bk h1) (sSs hh r o SC bk h2)
end
end
end Fb

set_option linter.all false
set_option maxRecDepth 100000
set_option maxHeartbeats 1000000
namespace Fb
open PySem PySem.Spec L2

/-! ### a def -/
def endOf (Q : QD) (E : XD) : Po := ⟨fun _ h => Q .non h, Q, fun _ _ => False, fun _ _ => False, fun c fs _ h => E c fs h⟩
/-- the body does what the spec asks -/
def Meets (G : Prg) (k N : Nat) (ir : SL) : Prop := ∀ ds h Q E, ds.length = (G.dfl k).length → G.spec k ds h Q E → wpSs G ir (startD N ds) h (endOf Q E)
theorem start_rel {K : PySem.W.Frag} {g : Gh} {H : Hp} {N : List Str} {ds : List D} {vs : List V} (r : RelDs K g H ds vs) : RelS K g H (startD N.length ds) (L2.start N vs) := by
  have hl := r.length
  refine ⟨?_, fun i d hi => ?_⟩
  · unfold startD L2.start
    simp [hl]
  · unfold startD at hi
    unfold L2.start
    by_cases h : i < ds.length
    · rw [List.getElem?_append_left (by simpa using h), List.getElem?_map] at hi
      cases e : ds[i]? with
      | none => rw [e] at hi; cases hi
      | some d' =>
        rw [e] at hi
        cases hi
        obtain ⟨v, h1, h2⟩ := r.getD e
        rw [List.getElem?_append_left (by rw [List.length_map, ← hl]; exact h), List.getElem?_map, h1]
        exact ⟨v, rfl, h2⟩
    · rw [List.getElem?_append_right (by simpa using h)] at hi
      rw [List.getElem?_replicate] at hi
      split at hi
      · cases hi
      · cases hi
section
variable {G : Prg} {A : Cl} {T : Nm} {P : Program} {w : World} {K : PySem.W.Frag} {mg : Str → Option Value} {base : Heap}
/-- what stands around all defs -/
structure World0 (G : Prg) (A : Cl) (T : Nm) (P : Program) (w : World) (K : PySem.W.Frag) (mg : Str → Option Value) (base : Heap) : Prop where
  mono : Mono G
  hot : T.hot = false
  cls : ∀ c x, T.cls[c]? = some x → ∃ C, A.cadr c = some C ∧ ClsFact K mg x C
  sub : ∀ c c' C C', A.cadr c = some C → A.cadr c' = some C' → PySem.W.exmOne K (.ref C) (.ref C') = some (G.sub c c')
  cf : ∀ c, A.cfld c = G.cfld c
  xf : ∀ c C, A.cadr c = some C → XfC K C ∧ ∀ f ∈ G.cfld c, PySem.W.findIn K (.ref C) f = some none
  mkx : ∀ c C, A.cadr c = some C → MkX P w K mg base C (G.cfld c)
  con : ∀ k x d, T.cons[k]? = some x → G.con k = some d → ∃ u v, mg x = some u ∧ RelV v u ∧ ∀ g H, RelD K g H d v
  blt : ∀ x ∈ bltNames, mg x = none
/-- the def's table of code objects -/
def TbF (K : PySem.W.Frag) (mg : Str → Option Value) (base : Heap) (f : Addr) (qual : Str) : Prop :=
  ∃ p : He.Defn, He.fAd K p = f ∧ LamX.TabB base mg (He.cT K p).1 (He.cT K p).2 ∧ ((He.cT K p).2, qual ++ ".<locals>." ++ "<lambda>") ∈ tau K ∧ ∀ q ∈ tau K, q.1 = (He.cT K p).2 → q.2 = qual ++ ".<locals>." ++ "<lambda>"
theorem w0_good {n : Nat} {x qual : Str} {scope : Scope} {N ps : List Str} {f : Addr} {cdv : Value} {Ar : Around} {outer : List Env} {s : Shared} {H : Hp} {E : XK} (w0 : World0 G A T P w K mg base) (S : FnScope N ps scope) (hmd : T.md = 0)
    (hr : Room (4 * n + 2) (Ar.deeper (PyProof.Rows.envOfC qual scope s.heap.objs.size f cdv)))
    (ih : ∀ j nm ps shs, T.lv j < n → T.fns[j]? = some (nm, ps, shs) → FnFact G A P w K mg base (T.lv j) j nm ps shs)
    (it : ∀ j nm, T.tks.lookup j = some nm → T.lv j < n → TkFact G A P w K mg base (T.lv j) j nm)
    (tb : T.lm = true → ∃ c Pt, LamX.TabB base mg c Pt ∧ cdv = .ref c ∧ (Pt, qual ++ ".<locals>." ++ "<lambda>") ∈ tau K ∧ ∀ q ∈ tau K, q.1 = Pt → q.2 = qual ++ ".<locals>." ++ "<lambda>") :
    Good G A T n (cxOf (L2.CX P w) P w K mg base N qual scope f cdv Ar outer s H E) (fun cls d _ H' => E cls d H') :=
  ⟨w0.mono, fun _ => rfl, fun _ => hr.mono (by omega), fun _ _ => hr, (by have h1 := hr.un; show (Ar.deeper (PyProof.Rows.envOfC qual scope s.heap.objs.size f cdv)).units + 100 < cLine; omega), S.nd, takes_of rfl rfl rfl rfl, w0.con, ih, w0.blt, passes_of rfl, w0.cls, w0.sub, w0.cf, fun z => absurd (w0.hot.symm.trans z) (by decide), w0.xf, w0.mkx,
    fun _ z => absurd (hmd.symm.trans z) (by decide), fun _ _ j nm h1 h2 => it j nm h1 h2, fun _ _ z => tb z⟩
theorem fn_sc {scope : Scope} {qual : Str} {N : List Str} {f : Addr} {cdv : Value} {Ar : Around} {outer : List Env} {s : Shared} {H : Hp} {E : XK} {CX : CXT} : ScR scope (cxOf CX P w K mg base N qual scope f cdv Ar outer s H E) :=
  ⟨fun x h => vis_of h, fun x h => ⟨loc_of h, .inl rfl⟩, fun x h => gl_of (X := cxOf CX P w K mg base N qual scope f cdv Ar outer s H E) h, fun x h => h, fun x h => h⟩
theorem fn_bk {scope : Scope} {qual : Str} {N ps : List Str} {f : Addr} {cdv : Value} {Ar : Around} {outer : List Env} {s : Shared} {H : Hp} {E : XK} {CX : CXT} (S : FnScope N ps scope) : (cxOf CX P w K mg base N qual scope f cdv Ar outer s H E).env.blockKind = .function := by
  show (if scope.kind.isAnnotationScope then ScopeKind.function else scope.kind) = .function
  rw [S.kind]
  rfl
theorem fn_good {k : Nat} {x qual : Str} {params : Arguments} {body : List Stmt} {scope : Scope} {dvs : List V} {kws : List (Str × V)} {f : Addr} {fd : FuncData} {N ps : List Str} {ir : SL} (w0 : World0 G A T P w K mg base) (hmd : T.md = 0)
    (F : FunD K x qual params body scope dvs kws f fd) (S : FnScope N ps scope) (hdl : (G.dfl k).length = ps.length) (hm : mSs T (T.lv k) N ir scope body = true) (meets : Meets G k N.length ir)
    (ih : ∀ j nm ps shs, T.lv j < T.lv k → T.fns[j]? = some (nm, ps, shs) → FnFact G A P w K mg base (T.lv j) j nm ps shs)
    (it : ∀ j nm, T.tks.lookup j = some nm → T.lv j < T.lv k → TkFact G A P w K mg base (T.lv j) j nm) (tb : T.lm = true → TbF K mg base f qual) : FnOk P w K mg base (L2.CX P w) (4 * T.lv k + 3) f fd ps (spD G A K k) := by
  obtain ⟨oc, od, dV, kV, doc, pm, an, cdv, ct, osl, rfl, lk, hcd, _, _⟩ := F.ex
  refine fn_of (k := 4 * T.lv k + 2) lk hcd S (fun vs H Q E h => ?_) fun Ar outer s H vs Q E hr h => ?_
  · obtain ⟨g, ds, h, R, r, hl, _⟩ := h
    rw [← r.length, hl, hdl]
  · obtain ⟨g, ds, h, R, r, hl, wp⟩ := h
    have o := w0_good (x := x) (E := E) (outer := outer) (H := H) w0 S hmd hr ih it fun z => by
      obtain ⟨p, e1, e2, e3, e4⟩ := tb z
      obtain ⟨c, hc⟩ := He.codeIn_ref hcd
      have e5 : (He.cT K p).1 = c := He.codeOf_eq (p := p) (by rw [e1]; exact lk) hc
      exact ⟨c, (He.cT K p).2, e5 ▸ e2, hc, e3, e4⟩
    refine ⟨_, sSs w0.hot ir o fn_sc ⟨fn_bk S, rfl, rfl⟩ hm, g, _, h, R, start_rel r, ?_⟩
    refine wpSs_mono w0.mono ir ?_ (meets ds h _ _ hl wp)
    exact ⟨fun σ h1 z g' σ1 H1 e R1 S1 => z g' _ _ e R1 .non, fun d h1 z => z, fun _ _ z => False.elim z, fun _ _ z => False.elim z, fun c fs σ h1 z g' σ1 cls dd H1 e R1 S1 x => z g' cls dd H1 e R1 x⟩
/-! ### a def that takes a lambda -/
def actB (B : DH → QD → XD → Prop) (f c : Nat) (q : Str) (sl : Sg) (sv : L2.St) : Nat → Nat → Str → Sg → L2.St → DH → QD → XD → Prop := fun f' c' q' sl' sv' h Q E => f' = f ∧ c' = c ∧ q' = q ∧ sl' = sl ∧ sv' = sv ∧ B h Q E
def TMeets (G : Prg) (k N : Nat) (ir : SL) : Prop := ∀ B f c q sl sv h Q, BMono B → G.tk k B h Q → wpSs { G with act := actB B f c q sl sv } ir (startD N [.clo f c q sl sv]) h (endOf Q fun _ _ _ => False)
theorem adopt_code {g : Gh} {h : DH} {H : Hp} {p : Addr} {q : Str} (hp : H p = some (LamX.CodeO p q)) (R : HRel K g h H) : ∃ g', Ext g H g' H ∧ HRel K g' h H ∧ g'.fz p := by
  have e : Ext g H ⟨g.io, fun a => g.fz a ∨ a = p, g.ow⟩ H := ⟨⟨fun _ _ z => z, fun _ z => .inl z, fun _ _ => rfl, fun _ _ z => z, fun _ _ _ z => z⟩, fun _ z => z, fun _ _ => rfl⟩
  refine ⟨⟨g.io, fun a => g.fz a ∨ a = p, g.ow⟩, e, ⟨fun l o' hl => ?_, R.inj, R.liv, fun a q z => ?_, R.owl, fun a q z => ?_, R.owio, R.fin, R.tab, fun a ps z => ⟨fun q => q.elim (R.tbl a ps z).fz fun q => ?_, (R.tbl a ps z).ow, (R.tbl a ps z).io⟩, R.owx⟩, .inr rfl⟩
  · obtain ⟨a, h1, h2, h3⟩ := R.obj l o' hl
    refine ⟨a, h1, fun z => z.elim h2 fun z => ?_, h3.mono e rfl⟩
    obtain ⟨u, k1, k2⟩ := h3.kind
    rw [z, hp] at k1
    have e2 := Option.some.inj k1
    unfold LamX.CodeO at e2
    rcases k2 with ⟨_, k2⟩ | ⟨_, _, _, k2⟩ | ⟨_, k2⟩ <;> rw [k2] at e2 <;> cases e2
  · rcases q with q | q
    · exact R.fzl a q z
    · rw [q, hp] at z; cases z
  · rcases z with z | z
    · exact R.owf a q z
    · subst z
      exact R.owx _ _ q hp
  · subst q
    rw [hp] at z
    exact LamX.codeO_ne ps (Option.some.inj z)
theorem tk_good {k : Nat} {x a : Str} {params : Arguments} {body : List Stmt} {scope : Scope} {kws : List (Str × V)} {f : Addr} {fd : FuncData} {N : List Str} {ir : SL} (w0 : World0 G A T P w K mg base) (hmd : T.md = 0)
    (F : FunD K x x params body scope [] kws f fd) (S : FnScope N [a] scope) (hN : N[0]? = some a) (hv : Vis scope a) (hda : dbgB a = true) (hm : mSs { T with md := 1 } (T.lv k) N ir scope body = true) (meets : TMeets G k N.length ir) (hx : mg x = some (.ref f))
    (hb : ∀ (kV doc pm : Value) (an : Option Addr) (cdv ct : Value) (us : List Value), us.length = 1 → bindArgs (PySem.W.fnOf x x params body scope .none kV doc pm an cdv ct) ⟨us, []⟩ = pure ([a].zip us))
    (ih : ∀ j nm ps shs, T.lv j < T.lv k → T.fns[j]? = some (nm, ps, shs) → FnFact G A P w K mg base (T.lv j) j nm ps shs) : TkFact G A P w K mg base (T.lv k) k x := by
  have F0 := F
  obtain ⟨oc, od, dV, kV, doc, pm, an, cdv, ct, osl, rfl, lk, hcd, hD, hK⟩ := F.ex
  have hdv : dV = .none := by
    rcases hD with ⟨_, z⟩ | ⟨z, _⟩
    · exact z
    · exact absurd rfl z
  subst hdv
  refine ⟨f, a, params, body, scope, .none, kV, doc, pm, cdv, ct, oc, an, od, osl, N, hx, F0.kp, lk, hcd, Binds.all fun us hl => hb _ _ _ _ _ _ us hl, S, hN, hv, hda, fun Ar st q hr f' c' s H Q sv tl act hc hT => ?_⟩
  obtain ⟨g0, h, sl, B, R, Sl, mB, himp, wt⟩ := hT
  obtain ⟨g1, e1, R1, fz1⟩ := adopt_code hc R
  have m' : Mono { G with act := actB B f' c' q sl sv } := ⟨w0.mono.sp, fun f c q' sl' sv' h Q Q' E E' hQ hE z => ⟨z.1, z.2.1, z.2.2.1, z.2.2.2.1, z.2.2.2.2.1, mB _ _ _ _ _ hQ hE z.2.2.2.2.2⟩, w0.mono.tk⟩
  have hr2 : Room (4 * T.lv k + 2) (Ar.deeper (PyProof.Rows.envOfC x scope s.heap.objs.size f cdv)) := hr.deeper _
  have o : Good { G with act := actB B f' c' q sl sv } A { T with md := 1 } (T.lv k) (tkCx P w K mg base Ar st N x scope f cdv s H) (fun _ _ _ _ => False) :=
    ⟨m', fun _ => rfl, fun _ => hr2.mono (by omega), fun _ _ => hr2, (by have h1 := hr2.un; show (Ar.deeper (PyProof.Rows.envOfC x scope s.heap.objs.size f cdv)).units + 100 < cLine; omega), S.nd, takes_of (E := fun _ _ _ => False) rfl rfl rfl rfl, w0.con, ih, w0.blt, passes_of rfl, w0.cls, w0.sub, w0.cf, fun z => absurd (w0.hot.symm.trans z) (by decide), w0.xf, w0.mkx,
      fun _ _ a2 ps xe W' p1 p2 hN2 tk' => by
        have ea : a2 = a := Option.some.inj (hN2.symm.trans hN)
        subst ea
        refine (act W' ps xe p1 p2 tk').imp fun z HZ QZ hz => ?_
        obtain ⟨g, zd, hd, RZ, SZ, f2, c2, q2, sl2, sv2, hs, e1, e2, e3, e4, e5, hB⟩ := hz
        subst e1 e2 e3 e4 e5
        obtain ⟨v, hv1, hv2⟩ := SZ.2 0 _ hs
        cases hv2 with
        | clo k1 k2 k3 => exact ⟨hv1, k2, himp g hd HZ _ _ _ _ RZ k3.to hB (fun _ _ z => z) (fun _ _ _ z => z)⟩,
      fun _ z => absurd z (by show ¬ (1 = 0); decide), fun _ z => absurd z (by show ¬ (1 = 0); decide)⟩
  refine ⟨_, sSs (T := { T with md := 1 }) (show T.hot = false from w0.hot) ir o fn_sc ⟨fn_bk S, rfl, rfl⟩ hm, g1, _, h, R1, start_rel (.cons (.clo fz1 hc ((Sl.mono e1).sl)) .nil), ?_⟩
  refine wpSs_mono m' ir ?_ (meets B f' c' q sl sv h _ mB wt)
  exact ⟨fun σ h1 z g' σ1 H1 e R1 S1 => z g' _ _ (e1.trans e) R1 .non, fun d h1 z => KQ.up e1 d h1 z, fun _ _ z => False.elim z, fun _ _ z => False.elim z, fun c fs σ h1 z g' σ1 cls dd H1 e R1 S1 x => False.elim z⟩
/-! ### shapes of calls: all arguments by place, no defaults -/
theorem sh_plain {x qual : Str} {params : Arguments} {body : List Stmt} {scope : Scope} {kws : List (Str × V)} {f : Addr} {fd : FuncData} {ps : List Str} {dfl : List (Option D)} {n : Nat} (F : FunD K x qual params body scope [] kws f fd) (hn : n = ps.length) (hd : dfl.length = n)
    (h : ∀ (kV doc pm : Value) (an : Option Addr) (cdv ct : Value) (us : List Value), us.length = ps.length → bindArgs (PySem.W.fnOf x qual params body scope .none kV doc pm an cdv ct) ⟨us, []⟩ = pure (ps.zip us)) : ShOk K fd ps dfl (n, []) := by
  refine ⟨fun us _ => us, fun vs _ => vs, ⟨fun s us ws X l1 l2 => ?_, fun r _ => r⟩, fun g H ds es args vs zs r1 r2 l1 l2 hb => ?_⟩
  · have hb := FunD.bindsA F h s us (by rw [← hn]; exact l1)
    have : ([] : List Nat).filterMap (fun k => ps[k]?) = [] := rfl
    rw [this]
    exact hb
  · have key : ∀ (dfl : List (Option D)) (ds : List D) (j : Nat), ds.length = dfl.length → bindD.go [] es j ds dfl = some ds := by
      intro dfl
      induction dfl with
      | nil => intro ds j hl; cases ds with | nil => rfl | cons _ _ => cases hl
      | cons o r ih =>
        intro ds j hl
        cases ds with
        | nil => cases hl
        | cons d ds =>
          show (bindD.go [] es (j + 1) ds r).map (d :: ·) = _
          rw [ih ds (j + 1) (by simpa using hl)]
          rfl
    have e := key dfl ds 0 (l1.trans hd.symm)
    have e2 : bindD dfl ds [] es = some ds := e
    rw [e2] at hb
    cases hb
    exact ⟨r1, l1.trans hd.symm⟩
end
/-! ### all defs, one after another -/
def AllF (G : Prg) (A : Cl) (T : Nm) (P : Program) (w : World) (K : PySem.W.Frag) (mg : Str → Option Value) (base : Heap) (n : Nat) : Prop :=
  (∀ j nm ps shs, T.lv j < n → T.fns[j]? = some (nm, ps, shs) → FnFact G A P w K mg base (T.lv j) j nm ps shs) ∧ ∀ j nm, T.tks.lookup j = some nm → T.lv j < n → TkFact G A P w K mg base (T.lv j) j nm
theorem all_fns {G : Prg} {A : Cl} {T : Nm} {P : Program} {w : World} {K : PySem.W.Frag} {mg : Str → Option Value} {base : Heap} {m : Nat}
    (step : ∀ k nm ps shs, T.fns[k]? = some (nm, ps, shs) → T.lv k < m → AllF G A T P w K mg base (T.lv k) → FnFact G A P w K mg base (T.lv k) k nm ps shs)
    (stepT : ∀ k nm, T.tks.lookup k = some nm → T.lv k < m → AllF G A T P w K mg base (T.lv k) → TkFact G A P w K mg base (T.lv k) k nm) : ∀ n, n ≤ m → AllF G A T P w K mg base n
  | 0, _ => ⟨fun _ _ _ _ h _ => absurd h (by omega), fun _ _ _ h => absurd h (by omega)⟩
  | n + 1, hn => by
    have ih := all_fns step stepT n (by omega)
    refine ⟨fun j nm ps shs hj e => ?_, fun j nm e hj => ?_⟩
    · by_cases h : T.lv j < n
      · exact ih.1 j nm ps shs h e
      · have hl : T.lv j = n := by omega
        exact step j nm ps shs e (by omega) (hl ▸ ih)
    · by_cases h : T.lv j < n
      · exact ih.2 j nm e h
      · have hl : T.lv j = n := by omega
        exact stepT j nm e (by omega) (hl ▸ ih)
/-! ### the law's own call -/
def noLists (K : PySem.W.Frag) : Bool := K.all fun q => !decide (q.2.cls = .type "list")
theorem script_rd {K : PySem.W.Frag} {H : Hp} {a : Addr} {vs : List V} (hk : noLists K = true) (hS : SqL K H a vs) : Rd H a (.lst vs) := by
  rcases hS with h | ⟨o, its, n, h1, h2, _⟩
  · exact h
  · exfalso
    have hm := He.lookup_mem h1
    have := List.all_eq_true.mp hk _ hm
    simp [h2] at this
theorem tabs_nil {H : Hp} : ∀ {T : List (Addr × Str)}, (∀ p ∈ T, H p.1 = some (.tbl #[])) → LamX.Tabs T H := fun h p hp => LamX.TabS.nil (h p hp)
theorem law_sp {G : Prg} {A : Cl} {K : PySem.W.Frag} {k : Nat} {H : Hp} {a : Addr} {ns : List Int} (hk : noLists K = true) (hd : (G.dfl k).length = 1) (hS : SqL K H a (ns.map V.int))
    (hw : G.spec k [.lst (ns.map D.int)] (fun _ => none) (fun d _ => d = .bl true) (fun _ _ _ => False)) (hm : Mono G) (hT : LamX.Tabs (tau K) H) : spD G A K k [.ref a] H (fun v _ => v = .bl true) (fun _ _ _ => False) := by
  have ho := script_rd hk hS
  have rs : ∀ (g : Gh) (ns : List Int), RelDs K g H (ns.map D.int) (ns.map V.int) := by
    intro g ns
    induction ns with
    | nil => exact .nil
    | cons n ns ih => exact .cons (.int n) ih
  have nt : ∀ ps, H a ≠ some (.tbl ps) := fun ps z => by
    rcases ho with h | ⟨o, h⟩ <;> rw [h] at z <;> cases z
  have nn : H a ≠ none := fun z => by
    rcases ho with h | ⟨o, h⟩ <;> rw [h] at z <;> cases z
  have sq : SqF ⟨fun _ => none, fun b => b = a, fun _ => False⟩ H a (ns.map V.int) := by
    rcases ho with h | ⟨o, h⟩
    · exact .inl ⟨h, rfl⟩
    · exact .inr ⟨o, h⟩
  refine ⟨⟨fun _ => none, fun b => b = a, fun _ => False⟩, [.lst (ns.map D.int)], fun _ => none, ⟨(fun l o h => by cases h), (fun l l' a h => by cases h), (fun l a h => by cases h), fun b h => (by rw [show b = a from h]; exact nn), fun a h => False.elim h, fun a h => False.elim h, (fun l a h => by cases h), ⟨0, fun _ _ => rfl⟩, hT, fun b ps z => ⟨fun q => nt ps (by rw [← show b = a from q]; exact z), fun q => q, fun l q => by cases q⟩, fun _ _ q => False.elim q⟩,
    .cons (.lst sq (rs _ ns)) .nil, by rw [hd]; rfl, hm.sp _ _ _ _ _ _ _ (fun d h z g' v H1 e R r => ?_) (fun _ _ _ z => False.elim z) hw⟩
  subst z
  cases r
  rfl
theorem cx_false {P : Program} {w : World} (H : Hp) (s : Shared) (e : Value) (s' : Shared) (h : L2.CX P w [] H s (fun _ _ _ => False) e s') : False := by
  obtain ⟨_, _, _, _, _, _, _, _, _, _, _, _, z⟩ := h
  exact z
end Fb

set_option linter.all false
set_option maxRecDepth 100000
set_option maxHeartbeats 1000000
namespace Fb
open PySem

/-! ### small facts for the laws' own proofs -/
theorem ofS_inj {a b : String} (h : Str.ofString a = Str.ofString b) : a = b := by
  rw [Str.ofString_eq_toList, Str.ofString_eq_toList] at h
  have h1 : (a.toList.map Char.toNat).toArray = (b.toList.map Char.toNat).toArray := congrArg Str.cps h
  have h2 : a.toList.map Char.toNat = b.toList.map Char.toNat := by simpa using congrArg Array.toList h1
  have inj : ∀ x y : Char, x.toNat = y.toNat → x = y := fun x y e => by
    apply Char.ext
    exact UInt32.toNat_inj.mp e
  have h3 : ∀ {l m : List Char}, l.map Char.toNat = m.map Char.toNat → l = m := by
    intro l
    induction l with
    | nil => intro m e; cases m with | nil => rfl | cons _ _ => simp at e
    | cons x l ih =>
      intro m e
      cases m with
      | nil => simp at e
      | cons y m =>
        simp only [List.map_cons, List.cons.injEq] at e
        rw [inj x y e.1, ih e.2]
  have h4 := h3 h2
  calc a = String.ofList a.toList := by simp
    _ = String.ofList b.toList := by rw [h4]
    _ = b := by simp
@[simp] theorem ofS_eq (a b : String) : (Str.ofString a = Str.ofString b) = (a = b) := propext ⟨ofS_inj, fun h => by rw [h]⟩
@[simp] theorem ofS_beq (a b : String) : (Str.ofString a == Str.ofString b) = (a == b) := by
  by_cases h : a = b
  · subst h; simp
  · have h' : Str.ofString a ≠ Str.ofString b := fun z => h (ofS_inj z)
    rw [beq_eq_false_iff_ne.mpr h', beq_eq_false_iff_ne.mpr h]
@[simp] theorem toP_non (h : DH) : toP h .non = some .none := rfl
@[simp] theorem toP_bl (h : DH) (b : Bool) : toP h (.bl b) = some (.bool b) := rfl
@[simp] theorem toP_int (h : DH) (b : Int) : toP h (.int b) = some (.int b) := rfl
@[simp] theorem toP_str (h : DH) (b : Str) : toP h (.str b) = some (.str b) := rfl
@[simp] theorem toP_tup (h : DH) (b : List D) : toP h (.tup b) = (toP0s b).map .tuple := rfl
@[simp] theorem toP_lst (h : DH) (b : List D) : toP h (.lst b) = (toP0s b).map .list := rfl
@[simp] theorem toP0_non : toP0 .non = some .none := rfl
@[simp] theorem toP0_bl (b : Bool) : toP0 (.bl b) = some (.bool b) := rfl
@[simp] theorem toP0_int (b : Int) : toP0 (.int b) = some (.int b) := rfl
@[simp] theorem toP0_str (b : Str) : toP0 (.str b) = some (.str b) := rfl
@[simp] theorem toP0_tup (b : List D) : toP0 (.tup b) = (toP0s b).map .tuple := rfl
@[simp] theorem toP0_lst (b : List D) : toP0 (.lst b) = (toP0s b).map .list := rfl
@[simp] theorem toP0s_nil : toP0s [] = some [] := rfl
@[simp] theorem toP0s_cons (d : D) (ds : List D) : toP0s (d :: ds) = (match toP0 d, toP0s ds with | some x, some xs => some (x :: xs) | _, _ => none) := rfl
@[simp] theorem sh_non : SeqAt.shaped .none = true := by simp [SeqAt.shaped, PyData.canLay0, PyData.depth]
@[simp] theorem sh_bool (b : Bool) : SeqAt.shaped (.bool b) = true := by simp [SeqAt.shaped, PyData.canLay0, PyData.depth]
@[simp] theorem sh_int (b : Int) : SeqAt.shaped (.int b) = true := by simp [SeqAt.shaped, PyData.canLay0, PyData.depth]
@[simp] theorem ok_str (b : String) : PyData.strOk (Str.ofString b) = true := by
  rw [Str.ofString_eq_toList]
  simp only [PyData.strOk, List.all_toArray, List.all_map, List.all_eq_true]
  intro c _
  have h := c.valid
  simp only [UInt32.isValidChar, Nat.isValidChar] at h
  show decide (c.toNat < 0x110000) = true
  have e : c.toNat = c.val.toNat := rfl
  rw [e]
  exact decide_eq_true (by omega)
@[simp] theorem sh_str (b : String) : SeqAt.shaped (.str (Str.ofString b)) = true := by simp [SeqAt.shaped, PyData.canLay0, PyData.depth]
@[simp] theorem frzD_non (h : DH) (Q : QD) : frzD .non h Q = Q .non h := rfl
@[simp] theorem frzD_bl (h : DH) (Q : QD) (b : Bool) : frzD (.bl b) h Q = Q (.bl b) h := rfl
@[simp] theorem frzD_int (h : DH) (Q : QD) (b : Int) : frzD (.int b) h Q = Q (.int b) h := rfl
@[simp] theorem frzD_str (h : DH) (Q : QD) (b : Str) : frzD (.str b) h Q = Q (.str b) h := rfl
@[simp] theorem frzD_tup (h : DH) (Q : QD) (b : List D) : frzD (.tup b) h Q = Q (.tup b) h := rfl
@[simp] theorem frzD_lst (h : DH) (Q : QD) (b : List D) : frzD (.lst b) h Q = Q (.lst b) h := rfl
@[simp] theorem mkL_false (ds : List D) (h : DH) (Q : QD) : mkL false ds h Q = Q (.lst ds) h := rfl
@[simp] theorem mkL_true (ds : List D) (h : DH) (Q : QD) : mkL true ds h Q = ∀ l, h l = none → Q (.ref l) (put h l (.lst ds)) := rfl
@[simp] theorem tyD_non (h : DH) : tyD h .non = some [] := rfl
@[simp] theorem tyD_bl (h : DH) (b : Bool) : tyD h (.bl b) = some [.bool, .int] := rfl
@[simp] theorem tyD_int (h : DH) (b : Int) : tyD h (.int b) = some [.int] := rfl
@[simp] theorem tyD_str (h : DH) (b : Str) : tyD h (.str b) = some [.str] := rfl
@[simp] theorem tyD_tup (h : DH) (b : List D) : tyD h (.tup b) = some [.tuple] := rfl
@[simp] theorem tyD_lst (h : DH) (b : List D) : tyD h (.lst b) = some [.list] := rfl
@[simp] theorem isNon_non : isNonD .non = true := rfl
@[simp] theorem isNon_bl (b : Bool) : isNonD (.bl b) = false := rfl
@[simp] theorem isNon_int (b : Int) : isNonD (.int b) = false := rfl
@[simp] theorem isNon_str (b : Str) : isNonD (.str b) = false := rfl
@[simp] theorem isNon_tup (b : List D) : isNonD (.tup b) = false := rfl
@[simp] theorem isNon_lst (b : List D) : isNonD (.lst b) = false := rfl
@[simp] theorem seqOf_tup (h : DH) (b : List D) : seqOf h (.tup b) = some b := rfl
@[simp] theorem seqOf_lst (h : DH) (b : List D) : seqOf h (.lst b) = some b := rfl
@[simp] theorem lstOf_lst (h : DH) (b : List D) : lstOf h (.lst b) = some b := rfl
@[simp] theorem lstOf_ref (h : DH) (l : Nat) (ds : List D) (e : h l = some (.lst ds)) : lstOf h (.ref l) = some ds := by simp [lstOf, e]
@[simp] theorem tupOf_tup (b : List D) : tupOf (.tup b) = some b := rfl
@[simp] theorem keepOf_tup (h h' : DH) (b : List D) : keepOf h (.tup b) h' = True := rfl
@[simp] theorem keepOf_lst (h h' : DH) (b : List D) : keepOf h (.lst b) h' = True := rfl
@[simp] theorem idx_tup (h : DH) (ds : List D) (i : Int) : idxD h (.tup ds) (.int i) = L2.atI ds i := rfl
@[simp] theorem idx_lst (h : DH) (ds : List D) (i : Int) : idxD h (.lst ds) (.int i) = L2.atI ds i := rfl
theorem idx_ref (h : DH) (l : Nat) (ds : List D) (i : Int) (e : h l = some (.lst ds)) : idxD h (.ref l) (.int i) = L2.atI ds i := by
  show (seqOf h (.ref l)).bind _ = _
  rw [show seqOf h (.ref l) = lstOf h (.ref l) from rfl, lstOf_ref h l ds e]
  rfl
@[simp] theorem lenD_tup (h : DH) (ds : List D) : lenD h (.tup ds) = some ds.length := rfl
@[simp] theorem lenD_lst (h : DH) (ds : List D) : lenD h (.lst ds) = some ds.length := rfl
@[simp] theorem bools_nil : bools [] = some [] := rfl
@[simp] theorem bools_cons (b : Bool) (r : List D) : bools (.bl b :: r) = (bools r).map (b :: ·) := rfl
@[simp] theorem compL_nil (st : D → DH → (Option D → DH → Prop) → Prop) (k : DH → Prop) (h : DH) (R : List D → DH → Prop) : compL st k [] h R = (k h ∧ R [] h) := rfl
@[simp] theorem compL_cons (st : D → DH → (Option D → DH → Prop) → Prop) (k : DH → Prop) (d : D) (ds : List D) (h : DH) (R : List D → DH → Prop) :
    compL st k (d :: ds) h R = (k h ∧ st d h fun o h1 => compL st k ds h1 fun acc h2 => R (o.toList ++ acc) h2) := rfl
@[simp] theorem forL_nil (st : D → Sg → DH → Po → Prop) (k : DH → Prop) (P : Po) (σ : Sg) (h : DH) : forL st k P [] σ h = (k h ∧ P.nx σ h) := rfl
@[simp] theorem forL_cons (st : D → Sg → DH → Po → Prop) (k : DH → Prop) (P : Po) (d : D) (ds : List D) (σ : Sg) (h : DH) :
    forL st k P (d :: ds) σ h = (k h ∧ st d σ h { P with nx := forL st k P ds, ct := forL st k P ds, bk := P.nx }) := rfl
@[simp] theorem put_at (h : DH) (l : Nat) (o : O) : put h l o l = some o := put_same
@[simp] theorem put_put' (h : DH) (l : Nat) (o o' : O) : put (put h l o) l o' = put h l o' := put_put
@[simp] theorem asg_nm (i : Nat) (d : D) (σ : Sg) (K : Sg → Prop) : asgN (.nm i) d σ K = K (σ.set i (some d)) := rfl
@[simp] theorem eqv_str (a b : Str) : PyData.eqv (.str a) (.str b) = (a == b) := rfl
@[simp] theorem eqv_int (a b : Int) : PyData.eqv (.int a) (.int b) = (a == b) := rfl
@[simp] theorem eqv_bool (a b : Bool) : PyData.eqv (.bool a) (.bool b) = (a == b) := rfl
@[simp] theorem eqv_non : PyData.eqv .none .none = true := rfl
@[simp] theorem eqv_tup (a b : List PyData) : PyData.eqv (.tuple a) (.tuple b) = PyData.eqvAll a b := rfl
@[simp] theorem eqv_lst (a b : List PyData) : PyData.eqv (.list a) (.list b) = PyData.eqvAll a b := rfl
@[simp] theorem eqvAll_nil : PyData.eqvAll [] [] = true := rfl
@[simp] theorem eqvAll_cons (a b : PyData) (as bs : List PyData) : PyData.eqvAll (a :: as) (b :: bs) = (PyData.eqv a b && PyData.eqvAll as bs) := rfl
@[simp] theorem eqvAll_nc (b : PyData) (bs : List PyData) : PyData.eqvAll [] (b :: bs) = false := rfl
@[simp] theorem eqvAll_cn (b : PyData) (bs : List PyData) : PyData.eqvAll (b :: bs) [] = false := rfl
end Fb

set_option linter.all false
set_option maxRecDepth 100000
set_option maxHeartbeats 1000000
namespace Fb
open PySem

/-! ### running the weakest preconditions from the outside: what comes later is not looked at before it is reached -/
def opt {α : Type} (o : Option α) (K : α → Prop) : Prop := ∃ a, o = some a ∧ K a
theorem opt_some {α : Type} (a : α) (K : α → Prop) : opt (some a) K = K a := propext ⟨fun ⟨_, e, k⟩ => by cases e; exact k, fun k => ⟨a, rfl, k⟩⟩
theorem opt_none {α : Type} (K : α → Prop) : opt none K = False := propext ⟨fun ⟨_, e, _⟩ => (by cases e), fun k => False.elim k⟩
@[simp ↓] theorem opt_m {α : Type} (o : Option α) (K : α → Prop) : opt o K = (match o with | some a => K a | none => False) := by
  cases o with
  | none => exact opt_none K
  | some a => exact opt_some a K
def asB (d : D) (K : Bool → Prop) : Prop := ∃ c, d = .bl c ∧ K c
theorem asB_bl (a : Bool) (K : Bool → Prop) : asB (.bl a) K = K a := propext ⟨fun ⟨_, e, k⟩ => by cases e; exact k, fun k => ⟨a, rfl, k⟩⟩
@[simp ↓] theorem asB_m (d : D) (K : Bool → Prop) : asB d K = (match d with | .bl a => K a | _ => False) := by
  cases d with
  | bl a => exact asB_bl a K
  | _ => exact propext ⟨fun ⟨_, e, _⟩ => (by cases e), fun k => False.elim k⟩
def asI (d : D) (K : Int → Prop) : Prop := ∃ c, d = .int c ∧ K c
theorem asI_int (a : Int) (K : Int → Prop) : asI (.int a) K = K a := propext ⟨fun ⟨_, e, k⟩ => by cases e; exact k, fun k => ⟨a, rfl, k⟩⟩
@[simp ↓] theorem asI_m (d : D) (K : Int → Prop) : asI d K = (match d with | .int a => K a | _ => False) := by
  cases d with
  | int a => exact asI_int a K
  | _ => exact propext ⟨fun ⟨_, e, _⟩ => (by cases e), fun k => False.elim k⟩
def asT (d : D) (K : List D → Prop) : Prop := ∃ c, d = .tup c ∧ K c
theorem asT_tup (a : List D) (K : List D → Prop) : asT (.tup a) K = K a := propext ⟨fun ⟨_, e, k⟩ => by cases e; exact k, fun k => ⟨a, rfl, k⟩⟩
@[simp ↓] theorem asT_m (d : D) (K : List D → Prop) : asT d K = (match d with | .tup a => K a | _ => False) := by
  cases d with
  | tup a => exact asT_tup a K
  | _ => exact propext ⟨fun ⟨_, e, _⟩ => (by cases e), fun k => False.elim k⟩
def asR (d : D) (K : Nat → Prop) : Prop := ∃ c, d = .ref c ∧ K c
theorem asR_ref (a : Nat) (K : Nat → Prop) : asR (.ref a) K = K a := propext ⟨fun ⟨_, e, k⟩ => by cases e; exact k, fun k => ⟨a, rfl, k⟩⟩
@[simp ↓] theorem asR_m (d : D) (K : Nat → Prop) : asR d K = (match d with | .ref a => K a | _ => False) := by
  cases d with
  | ref a => exact asR_ref a K
  | _ => exact propext ⟨fun ⟨_, e, _⟩ => (by cases e), fun k => False.elim k⟩
/-- int(x) of a number or a truth value -/
def asN (d : D) (K : Int → Prop) : Prop := (∃ i, d = .int i ∧ K i) ∨ ∃ c, d = .bl c ∧ K (if c then 1 else 0)
@[simp ↓] theorem asN_m (d : D) (K : Int → Prop) : asN d K = (match d with | .int a => K a | .bl c => K (if c then 1 else 0) | _ => False) := by
  cases d <;> simp [asN]
/-- a value is brought to its shortest form first -/
def nz {α : Type} (a : α) : Option α := some a
@[simp] theorem nz_eq {α : Type} (a : α) : nz a = some a := rfl
def nrm {α : Type} (a : α) (K : α → Prop) : Prop := K a
theorem nrm_eq {α : Type} (a : α) (K : α → Prop) : nrm a K = K a := rfl
@[simp ↓] theorem nrm_m {α : Type} (a : α) (K : α → Prop) : nrm a K = (match nz a with | some a => K a | none => False) := rfl

def seqP : PyData → Option (List PyData)
  | .list ds => some ds
  | .tuple ds => some ds
  | _ => none
@[simp] theorem seqP_list (ds : List PyData) : seqP (.list ds) = some ds := rfl
@[simp] theorem seqP_tuple (ds : List PyData) : seqP (.tuple ds) = some ds := rfl
def oLst : O → Option (List D)
  | .lst ds => some ds
  | _ => none
@[simp] theorem oLst_lst (ds : List D) : oLst (.lst ds) = some ds := rfl
@[simp] theorem lstOf_ref' (h : DH) (l : Nat) : lstOf h (.ref l) = (h l).bind oLst := by
  simp only [lstOf]
  split
  · rename_i e; rw [e]; rfl
  · rename_i n
    cases e : h l with
    | none => rfl
    | some o =>
      cases o with
      | lst ds => exact (n ds e).elim
      | _ => rfl
@[simp] theorem seqOf_ref' (h : DH) (l : Nat) : seqOf h (.ref l) = (h l).bind oLst := lstOf_ref' h l
@[simp] theorem idx_ref' (h : DH) (l : Nat) (i : Int) : idxD h (.ref l) (.int i) = ((h l).bind oLst).bind fun ds => L2.atI ds i := by
  show (seqOf h (.ref l)).bind _ = _
  rw [seqOf_ref']
@[simp] theorem lenD_ref' (h : DH) (l : Nat) : lenD h (.ref l) = ((h l).bind oLst).map List.length := by
  show (seqOf h (.ref l)).map _ = _
  rw [seqOf_ref']
@[simp] theorem keepOf_ref' (h h' : DH) (l : Nat) : keepOf h (.ref l) h' = (h' l = h l) := rfl
theorem sh_lt (ds : List PyData) : SeqAt.shaped (.list ds) = SeqAt.shaped (.tuple ds) := rfl

variable (G : Prg) (σ : Sg) (h : DH) (Q : QD) (E : XD)
@[simp ↓] theorem v_cst (d : D) : wpE G (.cst d) σ h Q E = Q d h := rfl
@[simp ↓] theorem v_var (i : Nat) : wpE G (.var i) σ h Q E = opt σ[i]? fun o => opt o fun d => Q d h := by
  simp only [wpE, opt]
  exact propext ⟨fun ⟨d, e, q⟩ => ⟨_, e, d, rfl, q⟩, fun ⟨_, e, d, e2, q⟩ => ⟨d, by rw [e, e2], q⟩⟩
@[simp ↓] theorem v_gcon (k : Nat) : wpE G (.gcon k) σ h Q E = opt (G.con k) fun d => Q d h := rfl
@[simp ↓] theorem v_tup (es : IL) : wpE G (.tup es) σ h Q E = wpL G es σ h (fun ds h1 => Q (.tup ds) h1) E := rfl
@[simp ↓] theorem v_disp (m : Bool) (es : IL) : wpE G (.disp m es) σ h Q E = wpL G es σ h (fun ds h1 => mkL m ds h1 Q) E := rfl
@[simp ↓] theorem v_dnew : wpE G .dnew σ h Q E = ∀ l, h l = none → Q (.ref l) (put h l (.dic [])) := rfl
@[simp ↓] theorem v_idx (a b : IE) : wpE G (.idx a b) σ h Q E = wpE G a σ h (fun x h1 => wpE G b σ h1 (fun y h2 => opt (idxD h2 x y) fun d => Q d h2) E) E := rfl
@[simp ↓] theorem v_slcT (a : IE) (lo hi : IO) : wpE G (.slcT a lo hi) σ h Q E = wpE G a σ h (fun x h1 => wpO G lo σ h1 (fun l h2 => wpO G hi σ h2 (fun u h3 => opt (tupOf x) fun ds => nrm (cutD ds l u) fun ds => Q (.tup ds) h3) E) E) E := rfl
@[simp ↓] theorem v_slcL (m : Bool) (a : IE) (lo hi : IO) : wpE G (.slcL m a lo hi) σ h Q E = wpE G a σ h (fun x h1 => wpO G lo σ h1 (fun l h2 => wpO G hi σ h2 (fun u h3 => opt (lstOf h3 x) fun ds => nrm (cutD ds l u) fun ds => mkL m ds h3 Q) E) E) E := rfl
@[simp ↓] theorem v_bin (op : BO) (a b : IE) : wpE G (.bin op a b) σ h Q E = wpE G a σ h (fun x h1 => wpE G b σ h1 (fun y h2 => asI x fun i => asI y fun j => binD op i j fun z => nrm z fun z => Q (.int z) h2) E) E := by
  have : ∀ (x y : D) (K : Int → Int → Prop), (∃ i j, x = .int i ∧ y = .int j ∧ K i j) = (asI x fun i => asI y fun j => K i j) := fun x y K => propext ⟨fun ⟨i, j, a, b, c⟩ => ⟨i, a, j, b, c⟩, fun ⟨i, a, j, b, c⟩ => ⟨i, j, a, b, c⟩⟩
  simp only [wpE, this, nrm_eq]
@[simp ↓] theorem v_neg (a : IE) : wpE G (.neg a) σ h Q E = wpE G a σ h (fun x h1 => asI x fun i => nrm (-i) fun i => Q (.int i) h1) E := rfl
@[simp ↓] theorem v_catT (a b : IE) : wpE G (.catT a b) σ h Q E = wpE G a σ h (fun x h1 => wpE G b σ h1 (fun y h2 => asT x fun xs => asT y fun ys => xs.length + ys.length ≤ 16777216 ∧ nrm (xs ++ ys) fun zs => Q (.tup zs) h2) E) E := by
  have : ∀ (x y : D) (K : List D → List D → Prop), (∃ i j, x = .tup i ∧ y = .tup j ∧ K i j) = (asT x fun i => asT y fun j => K i j) := fun x y K => propext ⟨fun ⟨i, j, a, b, c⟩ => ⟨i, a, j, b, c⟩, fun ⟨i, a, j, b, c⟩ => ⟨i, j, a, b, c⟩⟩
  simp only [wpE, this, nrm_eq, big]
theorem ex2_opt {α β : Type} (o : Option α) (p : Option β) (K : α → β → Prop) : (∃ i j, o = some i ∧ p = some j ∧ K i j) = (opt o fun i => opt p fun j => K i j) := propext ⟨fun ⟨i, j, a, b, c⟩ => ⟨i, a, j, b, c⟩, fun ⟨i, a, j, b, c⟩ => ⟨i, j, a, b, c⟩⟩
@[simp ↓] theorem v_cat (m : Bool) (a b : IE) : wpE G (.cat m a b) σ h Q E = wpE G a σ h (fun x h1 => wpE G b σ h1 (fun y h2 => opt (lstOf h2 x) fun xs => opt (lstOf h2 y) fun ys => xs.length + ys.length ≤ 16777216 ∧ nrm (xs ++ ys) fun zs => mkL m zs h2 Q) E) E := by
  simp only [wpE, ex2_opt, nrm_eq, big]
@[simp ↓] theorem v_rep (m : Bool) (a b : IE) : wpE G (.rep m a b) σ h Q E = wpE G a σ h (fun x h1 => wpE G b σ h1 (fun y h2 => opt (lstOf h2 x) fun xs => asI y fun k => -(2 ^ 63) ≤ k ∧ k < 2 ^ 63 ∧ xs.length * k.toNat ≤ 16777216 ∧ nrm (List.replicate k.toNat xs).flatten fun zs => mkL m zs h2 Q) E) E := by
  have : ∀ (x : Option (List D)) (y : D) (K : List D → Int → Prop), (∃ i j, x = some i ∧ y = .int j ∧ K i j) = (opt x fun i => asI y fun j => K i j) := fun x y K => propext ⟨fun ⟨i, j, a, b, c⟩ => ⟨i, a, j, b, c⟩, fun ⟨i, a, j, b, c⟩ => ⟨i, j, a, b, c⟩⟩
  simp only [wpE, this, nrm_eq, big]
@[simp ↓] theorem v_cmp (op : CO) (a b : IE) : wpE G (.cmp op a b) σ h Q E = wpE G a σ h (fun x h1 => wpE G b σ h1 (fun y h2 => asI x fun i => asI y fun j => nrm (cmpD op i j) fun c => Q (.bl c) h2) E) E := by
  have : ∀ (x y : D) (K : Int → Int → Prop), (∃ i j, x = .int i ∧ y = .int j ∧ K i j) = (asI x fun i => asI y fun j => K i j) := fun x y K => propext ⟨fun ⟨i, j, a, b, c⟩ => ⟨i, a, j, b, c⟩, fun ⟨i, a, j, b, c⟩ => ⟨i, j, a, b, c⟩⟩
  simp only [wpE, this, nrm_eq]
@[simp ↓] theorem v_eq (n : Bool) (a b : IE) : wpE G (.eq n a b) σ h Q E = wpE G a σ h (fun x h1 => wpE G b σ h1 (fun y h2 => opt (toP h2 x) fun d => opt (toP h2 y) fun e => SeqAt.shaped d = true ∧ SeqAt.shaped e = true ∧ nrm (if n then !PyData.eqv d e else PyData.eqv d e) fun c => Q (.bl c) h2) E) E := by
  simp only [wpE, ex2_opt, nrm_eq]
@[simp ↓] theorem v_isN (n : Bool) (a : IE) : wpE G (.isN n a) σ h Q E = wpE G a σ h (fun x h1 => nrm (if n then !isNonD x else isNonD x) fun c => Q (.bl c) h1) E := rfl
@[simp ↓] theorem v_inn (n : Bool) (a b : IE) : wpE G (.inn n a b) σ h Q E = wpE G a σ h (fun x h1 => wpE G b σ h1 (fun y h2 => opt (toP h2 x) fun d => opt (toP h2 y) fun e => opt (seqP e) fun ds => SeqAt.shaped d = true ∧ SeqAt.shaped (.tuple ds) = true ∧ nrm (if n then !(ds.any fun z => PyData.eqv z d) else ds.any fun z => PyData.eqv z d) fun c => Q (.bl c) h2) E) E := by
  have : ∀ (x : Option PyData) (y : Option PyData) (K : PyData → List PyData → Prop), (∃ d ds, x = some d ∧ ((y = some (.list ds) ∧ SeqAt.shaped (.list ds) = true) ∨ (y = some (.tuple ds) ∧ SeqAt.shaped (.tuple ds) = true)) ∧ SeqAt.shaped d = true ∧ K d ds) = (opt x fun d => opt y fun e => opt (seqP e) fun ds => SeqAt.shaped d = true ∧ SeqAt.shaped (.tuple ds) = true ∧ K d ds) := fun x y K => propext ⟨fun ⟨d, ds, e, z, s, k⟩ => by
      subst e
      rcases z with ⟨rfl, s2⟩ | ⟨rfl, s2⟩
      · exact ⟨_, rfl, _, rfl, _, rfl, s, (sh_lt ds).symm.trans s2, k⟩
      · exact ⟨_, rfl, _, rfl, _, rfl, s, s2, k⟩, fun ⟨d, e1, e, e2, ds, e3, s1, s2, k⟩ => ⟨d, ds, e1, (by
        cases e with
        | list xs => cases e3; exact .inl ⟨e2, (sh_lt ds).trans s2⟩
        | tuple xs => cases e3; exact .inr ⟨e2, s2⟩
        | _ => exact absurd e3 (by simp [seqP])), s1, k⟩⟩
  simp only [wpE, this, nrm_eq]
@[simp ↓] theorem v_band (es : IL) : wpE G (.band es) σ h Q E = wpAnd G es σ h Q E := rfl
@[simp ↓] theorem v_bor (es : IL) : wpE G (.bor es) σ h Q E = wpOr G es σ h Q E := rfl
@[simp ↓] theorem v_not (a : IE) : wpE G (.not a) σ h Q E = wpE G a σ h (fun x h1 => asB x fun c => nrm (!c) fun c => Q (.bl c) h1) E := rfl
@[simp ↓] theorem v_ite (c a b : IE) : wpE G (.ite c a b) σ h Q E = wpE G c σ h (fun x h1 => asB x fun c => if c = true then wpE G a σ h1 Q E else wpE G b σ h1 Q E) E := rfl
@[simp ↓] theorem v_call (k : Nat) (as : IL) (ks : List Nat) (kws : IL) : wpE G (.call k as ks kws) σ h Q E = wpL G as σ h (fun ds h1 => wpL G kws σ h1 (fun es h2 => opt (bindD (G.dfl k) ds ks es) fun args => G.spec k args h2 Q E) E) E := rfl
@[simp ↓] theorem v_isi (a : IE) (ts : List Ty) : wpE G (.isi a ts) σ h Q E = wpE G a σ h (fun x h1 => opt (tyD h1 x) fun tx => nrm (ts.any fun t => tx.contains t) fun c => Q (.bl c) h1) E := rfl
@[simp ↓] theorem v_len (a : IE) : wpE G (.len a) σ h Q E = wpE G a σ h (fun x h1 => opt (lenD h1 x) fun n => Q (.int n) h1) E := rfl
@[simp ↓] theorem v_int1 (a : IE) : wpE G (.int1 a) σ h Q E = wpE G a σ h (fun x h1 => asN x fun i => Q (.int i) h1) E := rfl
theorem ex2_dep {α β : Type} (o : Option α) (p : α → Option β) (K : α → β → Prop) : (∃ i j, o = some i ∧ p i = some j ∧ K i j) = (opt o fun i => opt (p i) fun j => K i j) := propext ⟨fun ⟨i, j, a, b, c⟩ => ⟨i, a, j, b, c⟩, fun ⟨i, a, j, b, c⟩ => ⟨i, j, a, b, c⟩⟩
@[simp ↓] theorem v_any (a : IE) : wpE G (.any a) σ h Q E = wpE G a σ h (fun x h1 => opt (lstOf h1 x) fun ds => opt (bools ds) fun bs => nrm (bs.any id) fun c => Q (.bl c) h1) E := by
  simp only [wpE, ex2_dep, nrm_eq]
@[simp ↓] theorem v_all (a : IE) : wpE G (.all a) σ h Q E = wpE G a σ h (fun x h1 => opt (lstOf h1 x) fun ds => opt (bools ds) fun bs => nrm (bs.all id) fun c => Q (.bl c) h1) E := by
  simp only [wpE, ex2_dep, nrm_eq]
@[simp ↓] theorem v_lof (m : Bool) (a : IE) : wpE G (.lof m a) σ h Q E = wpE G a σ h (fun x h1 => opt (seqOf h1 x) fun ds => mkL m ds h1 Q) E := rfl
@[simp ↓] theorem v_tof (a : IE) : wpE G (.tof a) σ h Q E = wpE G a σ h (fun x h1 => opt (seqOf h1 x) fun ds => Q (.tup ds) h1) E := rfl
@[simp ↓] theorem v_comp (m : Bool) (tg : Tg) (it : IT) (ifs : IL) (elt : IE) : wpE G (.comp m tg it ifs elt) σ h Q E = wpI G it σ h (fun its h1 => its.ds.length ≤ 16777216 ∧ compL (fun d h2 K => asgN tg d σ fun σ1 => wpIfs G ifs σ1 h2 fun b h3 => if b = true then wpE G elt σ1 h3 (fun y h4 => K (some y) h4) (fun _ _ _ => False) else K none h3) its.keep its.ds h1 fun acc h2 => mkL m acc h2 Q) E := rfl
@[simp ↓] theorem v_xfld (a : IE) (f : Str) : wpE G (.xfld a f) σ h Q E = wpE G a σ h (fun x h1 => ∃ p d c ns fs y, x = .exc p d c ns fs ∧ (G.exc p d c ∧ ns = G.cfld c) ∧ (ns.zip fs).lookup f = some y ∧ Q y h1) E := rfl
@[simp ↓] theorem v_lcall (k : Nat) (body : IE) : wpE G (.lcall k body) σ h Q E = G.tk k (fun h' Q' E' => wpE G body σ h' Q' E') h Q := rfl
@[simp ↓] theorem v_act (i : Nat) : wpE G (.act i) σ h Q E = ∃ f c q sl sv, σ[i]? = some (some (.clo f c q sl sv)) ∧ G.act f c q sl sv h Q E := rfl
@[simp ↓] theorem v_chain (o1 o2 : CO) (a b c : IE) : wpE G (.chain o1 o2 a b c) σ h Q E = wpE G a σ h (fun x h1 => wpE G b σ h1 (fun y h2 => asI x fun i => asI y fun j => nrm (cmpD o1 i j) fun t => if t = true then wpE G c σ h2 (fun z h3 => asI z fun k => nrm (cmpD o2 j k) fun t => Q (.bl t) h3) E else Q (.bl false) h2) E) E := by
  have : ∀ (x y : D) (K : Int → Int → Prop), (∃ i j, x = .int i ∧ y = .int j ∧ K i j) = (asI x fun i => asI y fun j => K i j) := fun x y K => propext ⟨fun ⟨i, j, a, b, c⟩ => ⟨i, a, j, b, c⟩, fun ⟨i, a, j, b, c⟩ => ⟨i, j, a, b, c⟩⟩
  simp only [wpE, this, nrm_eq]
  rfl
@[simp ↓] theorem v_isB (n v : Bool) (a : IE) : wpE G (.isB n v a) σ h Q E = wpE G a σ h (fun x h1 => asB x fun b => nrm (if n then !(b == v) else b == v) fun c => Q (.bl c) h1) E := rfl
@[simp ↓] theorem v_dict1 (a b : IE) : wpE G (.dict1 a b) σ h Q E = wpE G a σ h (fun x h1 => wpE G b σ h1 (fun y h2 => keyD x = true ∧ ∀ l, h2 l = none → Q (.ref l) (put h2 l (.dic [(x, y)]))) E) E := rfl
@[simp] theorem keyD_int (i : Int) : keyD (.int i) = true := rfl
@[simp] theorem keyD_str (s : Str) : keyD (.str s) = true := rfl
@[simp ↓] theorem v_no (K : Option Int → DH → Prop) : wpO G .no σ h K E = K none h := rfl
@[simp ↓] theorem v_so (e : IE) (K : Option Int → DH → Prop) : wpO G (.so e) σ h K E = wpE G e σ h (fun x h1 => asI x fun i => K (some i) h1) E := rfl
@[simp ↓] theorem v_nil (K : List D → DH → Prop) : wpL G .nil σ h K E = K [] h := rfl
@[simp ↓] theorem v_cons (e : IE) (r : IL) (K : List D → DH → Prop) : wpL G (.cons e r) σ h K E = wpE G e σ h (fun d h1 => wpL G r σ h1 (fun ds h2 => K (d :: ds) h2) E) E := rfl
@[simp ↓] theorem v_and1 (e : IE) : wpAnd G (.cons e .nil) σ h Q E = wpE G e σ h Q E := rfl
@[simp ↓] theorem v_and2 (e e' : IE) (r : IL) : wpAnd G (.cons e (.cons e' r)) σ h Q E = wpE G e σ h (fun x h1 => asB x fun c => if c = true then wpAnd G (.cons e' r) σ h1 Q E else Q (.bl false) h1) E := rfl
@[simp ↓] theorem v_or1 (e : IE) : wpOr G (.cons e .nil) σ h Q E = wpE G e σ h Q E := rfl
@[simp ↓] theorem v_or2 (e e' : IE) (r : IL) : wpOr G (.cons e (.cons e' r)) σ h Q E = wpE G e σ h (fun x h1 => asB x fun c => if c = true then Q (.bl true) h1 else wpOr G (.cons e' r) σ h1 Q E) E := rfl
@[simp ↓] theorem v_if0 (K : Bool → DH → Prop) : wpIfs G .nil σ h K = K true h := rfl
@[simp ↓] theorem v_if1 (e : IE) (r : IL) (K : Bool → DH → Prop) : wpIfs G (.cons e r) σ h K = wpE G e σ h (fun x h1 => asB x fun c => if c = true then wpIfs G r σ h1 K else K false h1) (fun _ _ _ => False) := rfl
@[simp ↓] theorem v_seq (e : IE) (K : Its → DH → Prop) : wpI G (.seq e) σ h K E = wpE G e σ h (fun x h1 => opt (seqOf h1 x) fun ds => K ⟨ds, keepOf h1 x⟩ h1) E := rfl
@[simp ↓] theorem v_rng (e : IE) (K : Its → DH → Prop) : wpI G (.rng e) σ h K E = wpE G e σ h (fun x h1 => asI x fun j => -(2 ^ 62) ≤ j ∧ j < 2 ^ 62 ∧ K ⟨(List.range j.toNat).map fun (i : Nat) => D.int (i : Int), fun _ => True⟩ h1) E := rfl
@[simp ↓] theorem v_asg_nm (i : Nat) (d : D) (K : Sg → Prop) : asgN (.nm i) d σ K = nrm (σ.set i (some d)) K := rfl
@[simp ↓] theorem v_asg_tp (is : List Nat) (d : D) (K : Sg → Prop) : asgN (.tp is) d σ K = asT d fun ds => opt (setN is ds σ) fun σ' => K σ' := propext ⟨fun ⟨ds, σ', a, b, c⟩ => ⟨ds, a, σ', b, c⟩, fun ⟨ds, a, σ', b, c⟩ => ⟨ds, σ', a, b, c⟩⟩
@[simp] theorem setN_nil : setN [] [] σ = some σ := rfl
@[simp] theorem setN_cons (i : Nat) (is : List Nat) (d : D) (ds : List D) : setN (i :: is) (d :: ds) σ = setN is ds (σ.set i (some d)) := rfl
variable (P : Po)
@[simp ↓] theorem v_expr (e : IE) : wpS G (.expr e) σ h P = wpE G e σ h (fun _ h1 => P.nx σ h1) (fun c fs h => P.ex c fs σ h) := rfl
@[simp ↓] theorem v_app (a e : IE) : wpS G (.app a e) σ h P = wpE G a σ h (fun o h1 => (∃ ds, lstOf h1 o = some ds) ∧ wpE G e σ h1 (fun v h2 => appD h2 o v fun h3 => P.nx σ h3) (fun c fs h => P.ex c fs σ h)) (fun c fs h => P.ex c fs σ h) := rfl
@[simp ↓] theorem v_asg (tg : Tg) (e : IE) : wpS G (.asg tg e) σ h P = wpE G e σ h (fun d h1 => asgN tg d σ fun σ1 => P.nx σ1 h1) (fun c fs h => P.ex c fs σ h) := rfl
@[simp ↓] theorem v_par (i j : Nat) (a b : IE) : wpS G (.par i j a b) σ h P = wpE G a σ h (fun x h1 => wpE G b σ h1 (fun y h2 => nrm ((σ.set i (some x)).set j (some y)) fun σ1 => P.nx σ1 h2) (fun c fs h => P.ex c fs σ h)) (fun c fs h => P.ex c fs σ h) := rfl
@[simp ↓] theorem v_sub (o i e : IE) : wpS G (.sub o i e) σ h P = wpE G e σ h (fun v h1 => wpE G o σ h1 (fun ov h2 => wpE G i σ h2 (fun iv h3 => setD h3 ov iv v fun h4 => P.nx σ h4) (fun c fs h => P.ex c fs σ h)) (fun c fs h => P.ex c fs σ h)) (fun c fs h => P.ex c fs σ h) := rfl
@[simp ↓] theorem v_ifs (c : IE) (a b : SL) : wpS G (.ifs c a b) σ h P = wpE G c σ h (fun x h1 => asB x fun c => if c = true then wpSs G a σ h1 P else wpSs G b σ h1 P) (fun c fs h => P.ex c fs σ h) := rfl
@[simp ↓] theorem v_for (tg : Tg) (it : IT) (body : SL) : wpS G (.for_ tg it body) σ h P = wpI G it σ h (fun its h1 => forL (fun d σ h P => asgN tg d σ fun σ1 => wpSs G body σ1 h P) its.keep P its.ds σ h1) (fun c fs h => P.ex c fs σ h) := rfl
@[simp ↓] theorem v_ret (e : IE) : wpS G (.ret false e) σ h P = wpE G e σ h (fun d h1 => P.rt d h1) (fun c fs h => P.ex c fs σ h) := rfl
@[simp ↓] theorem v_retF (e : IE) : wpS G (.ret true e) σ h P = wpE G e σ h (fun d h1 => frzD d h1 P.rt) (fun c fs h => P.ex c fs σ h) := rfl
@[simp ↓] theorem v_retN : wpS G .retN σ h P = P.rt .non h := rfl
@[simp ↓] theorem v_pass : wpS G .pass σ h P = P.nx σ h := rfl
@[simp ↓] theorem v_brk : wpS G .brk σ h P = P.bk σ h := rfl
@[simp ↓] theorem v_cont : wpS G .cont σ h P = P.ct σ h := rfl
@[simp ↓] theorem v_raise (c : Nat) (es : IL) : wpS G (.raise c es) σ h P = wpL G es σ h (fun ds h1 => ds.length = (G.cfld c).length ∧ P.ex c ds.reverse σ h1) (fun c fs h => P.ex c fs σ h) := rfl
@[simp ↓] theorem v_try (body : SL) (hs : List Hd) : wpS G (.try_ body hs) σ h P = wpSs G body σ h { P with ex := wpH G P hs } := rfl
@[simp] theorem v_h0 (c : Nat) (fs : List D) : wpH G P [] c fs σ h = P.ex c fs σ h := rfl
@[simp] theorem v_h1 (hd : Hd) (r : List Hd) (c : Nat) (fs : List D) : wpH G P (hd :: r) c fs σ h = if G.sub c hd.c = true then ∀ a d, wpE { G with exc := fun a' d' c' => a' = a ∧ d' = d ∧ c' = c } hd.e (catN σ hd.i (.exc a d c (G.cfld c) fs)) h P.rt (fun _ _ _ => False) else wpH G P r c fs σ h := rfl
@[simp ↓] theorem v_never : wpS G .never σ h P = False := rfl
@[simp ↓] theorem v_snil : wpSs G .nil σ h P = P.nx σ h := rfl
@[simp ↓] theorem v_scons (s : IS) (r : SL) : wpSs G (.cons s r) σ h P = wpS G s σ h { P with nx := fun σ1 h1 => wpSs G r σ1 h1 P } := rfl
def asTU (h : DH) (o : Option O) (K : List D → Prop) : Prop := ∃ ds, o = some (.lst ds) ∧ K ds
@[simp ↓] theorem v_setD (o i v : D) (K : DH → Prop) : setD h o i v K = asR o fun l => opt ((h l).bind oLst) fun ds => asI i fun k => opt (L2.ixN ds.length k) fun j => nrm (put h l (.lst (ds.set j v))) K := by
  apply propext
  constructor
  · rintro ⟨l, ds, k, j, rfl, e, rfl, e2, w⟩
    simpa [asR, opt, asI, nrm, e, e2] using w
  · rintro ⟨l, rfl, ds, e, k, rfl, j, e2, w⟩
    cases e3 : h l with
    | none => rw [e3] at e; cases e
    | some o =>
      rw [e3] at e
      cases o with
      | lst xs => cases e; exact ⟨l, _, k, j, rfl, e3, rfl, e2, w⟩
      | _ => cases e
@[simp ↓] theorem v_appD (o v : D) (K : DH → Prop) : appD h o v K = asR o fun l => opt ((h l).bind oLst) fun ds => ds.length < 16777216 ∧ nrm (put h l (.lst (ds ++ [v]))) K := by
  apply propext
  constructor
  · rintro ⟨l, ds, rfl, e, n, w⟩
    simpa [e, nrm, asR, opt] using ⟨n, w⟩
  · rintro ⟨l, rfl, ds, e, n, w⟩
    cases e3 : h l with
    | none => rw [e3] at e; cases e
    | some o =>
      rw [e3] at e
      cases o with
      | lst xs => cases e; exact ⟨l, _, rfl, e3, n, w⟩
      | _ => cases e
@[simp ↓] theorem v_forN (st : D → Sg → DH → Po → Prop) (k : DH → Prop) : forL st k P [] σ h = (k h ∧ P.nx σ h) := rfl
@[simp ↓] theorem v_forC (st : D → Sg → DH → Po → Prop) (k : DH → Prop) (d : D) (ds : List D) :
    forL st k P (d :: ds) σ h = (k h ∧ st d σ h { P with nx := forL st k P ds, ct := forL st k P ds, bk := P.nx }) := rfl
@[simp ↓] theorem v_compN (st : D → DH → (Option D → DH → Prop) → Prop) (k : DH → Prop) (R : List D → DH → Prop) : compL st k [] h R = (k h ∧ R [] h) := rfl
@[simp ↓] theorem v_compC (st : D → DH → (Option D → DH → Prop) → Prop) (k : DH → Prop) (d : D) (ds : List D) (R : List D → DH → Prop) :
    compL st k (d :: ds) h R = (k h ∧ st d h fun o h1 => compL st k ds h1 fun acc h2 => R (o.toList ++ acc) h2) := rfl
@[simp] theorem binD_add (i j : Int) (K : Int → Prop) : binD .add i j K = K (i + j) := rfl
@[simp] theorem binD_sub (i j : Int) (K : Int → Prop) : binD .sub i j K = K (i - j) := rfl
@[simp] theorem binD_mul (i j : Int) (K : Int → Prop) : binD .mul i j K = (L2.CMul i j ∧ K (i * j)) := rfl
@[simp] theorem binD_fdiv (i j : Int) (K : Int → Prop) : binD .fdiv i j K = (L2.CDiv i j ∧ K (i / j)) := rfl
@[simp] theorem binD_mod (i j : Int) (K : Int → Prop) : binD .mod i j K = (0 < j ∧ K (i % j)) := rfl
@[simp] theorem binD_pow (i j : Int) (K : Int → Prop) : binD .pow i j K = (L2.CPow i j ∧ K (i ^ j.toNat)) := rfl
@[simp] theorem cmpD_lt (i j : Int) : cmpD .lt i j = decide (i < j) := rfl
@[simp] theorem cmpD_le (i j : Int) : cmpD .le i j = decide (i ≤ j) := rfl
@[simp] theorem cmpD_gt (i j : Int) : cmpD .gt i j = decide (j < i) := rfl
@[simp] theorem cmpD_ge (i j : Int) : cmpD .ge i j = decide (j ≤ i) := rfl
/-! ### shapes -/
@[simp] theorem sh_tuple (ds : List PyData) : SeqAt.shaped (.tuple ds) = (PyData.canLayAll0 ds && decide (PyData.depthAll ds ≤ 63)) := by
  simp only [SeqAt.shaped, PyData.canLay0, PyData.depth]
  congr 1
  exact decide_eq_decide.mpr (by omega)
@[simp] theorem sh_list (ds : List PyData) : SeqAt.shaped (.list ds) = (PyData.canLayAll0 ds && decide (PyData.depthAll ds ≤ 63)) := sh_tuple ds
@[simp] theorem lay_nil : PyData.canLayAll0 [] = true := rfl
@[simp] theorem lay_cons (d : PyData) (ds : List PyData) : PyData.canLayAll0 (d :: ds) = (d.canLay0 && PyData.canLayAll0 ds) := rfl
@[simp] theorem lay_tup (ds : List PyData) : PyData.canLay0 (.tuple ds) = PyData.canLayAll0 ds := rfl
@[simp] theorem lay_lst (ds : List PyData) : PyData.canLay0 (.list ds) = PyData.canLayAll0 ds := rfl
@[simp] theorem lay_str (s : String) : PyData.canLay0 (.str (Str.ofString s)) = true := by simp [PyData.canLay0]
@[simp] theorem lay_int (i : Int) : PyData.canLay0 (.int i) = true := by simp [PyData.canLay0]
@[simp] theorem lay_bool (i : Bool) : PyData.canLay0 (.bool i) = true := by simp [PyData.canLay0]
@[simp] theorem lay_none : PyData.canLay0 .none = true := by simp [PyData.canLay0]
@[simp] theorem dep_nil (k : Nat) : (PyData.depthAll [] ≤ k) = True := by simp [PyData.depthAll]
@[simp] theorem dep_cons (d : PyData) (ds : List PyData) (k : Nat) : (PyData.depthAll (d :: ds) ≤ k) = (d.depth ≤ k ∧ PyData.depthAll ds ≤ k) := by simp [PyData.depthAll, Nat.max_le]
@[simp] theorem dep_tup (ds : List PyData) (k : Nat) : (PyData.depth (.tuple ds) ≤ k + 1) = (PyData.depthAll ds ≤ k) := by simp [PyData.depth]
@[simp] theorem dep_lst (ds : List PyData) (k : Nat) : (PyData.depth (.list ds) ≤ k + 1) = (PyData.depthAll ds ≤ k) := by simp [PyData.depth]
@[simp] theorem dep_str (s : Str) : PyData.depth (.str s) = 0 := rfl
@[simp] theorem dep_int (i : Int) : PyData.depth (.int i) = 0 := rfl
@[simp] theorem dep_bool (i : Bool) : PyData.depth (.bool i) = 0 := rfl
@[simp] theorem dep_none : PyData.depth .none = 0 := rfl
end Fb

set_option linter.all false
set_option maxRecDepth 100000
set_option maxHeartbeats 1000000
namespace Fb
open PySem PySem.Spec L2
/-! ### calls with keywords and defaults -/
def bindP {α : Type} (ks : List Nat) (es : List α) (j : Nat) : List α → List (Option α) → Option (List α)
  | d :: ds, _ :: r => (bindP ks es (j + 1) ds r).map (d :: ·)
  | [], o :: r => match (ks.zip es).lookup j with
    | some e => (bindP ks es (j + 1) [] r).map (e :: ·)
    | none => match o with
      | some d => (bindP ks es (j + 1) [] r).map (d :: ·)
      | none => none
  | [], [] => some []
  | _ :: _, [] => none
theorem bindD_eq (ks : List Nat) (es : List D) : ∀ (dfl : List (Option D)) (ds : List D) (j : Nat), bindD.go ks es j ds dfl = bindP ks es j ds dfl
  | [], [], _ => rfl
  | [], _ :: _, _ => rfl
  | _ :: r, d :: ds, j => by
    simp only [bindD.go, bindP, bindD_eq ks es r ds (j + 1)]
  | o :: r, [], j => by
    simp only [bindD.go, bindP, bindD_eq ks es r [] (j + 1)]
    cases (ks.zip es).lookup j with
    | some e => rfl
    | none => cases o <;> rfl
inductive Two {α β : Type} (R : α → β → Prop) : List α → List β → Prop
  | nil : Two R [] []
  | cons {a : α} {b : β} {as : List α} {bs : List β} : R a b → Two R as bs → Two R (a :: as) (b :: bs)
inductive Tw1 {α β : Type} (R : α → β → Prop) : Option α → Option β → Prop
  | no : Tw1 R none none
  | so {a : α} {b : β} : R a b → Tw1 R (some a) (some b)
theorem Two.look {α β : Type} {R : α → β → Prop} (j : Nat) : ∀ (ks : List Nat) {es : List α} {fs : List β}, Two R es fs → Tw1 R ((ks.zip es).lookup j) ((ks.zip fs).lookup j)
  | [], _, _, _ => .no
  | _ :: _, _, _, .nil => .no
  | k :: ks, _, _, .cons r t => by
    simp only [List.zip_cons_cons, List.lookup]
    split
    · exact .so r
    · exact Two.look j ks t
theorem bindP_two {α β : Type} {R : α → β → Prop} (ks : List Nat) {es : List α} {fs : List β} (he : Two R es fs) : ∀ {dfl : List (Option α)} {dfm : List (Option β)} {ds : List α} {us : List β} (j : Nat) (out : List α), Two R ds us → Two (Tw1 R) dfl dfm → bindP ks es j ds dfl = some out →
    ∃ out', bindP ks fs j us dfm = some out' ∧ Two R out out'
  | [], _, [], _, j, out, .nil, .nil, h => by cases h; exact ⟨[], rfl, .nil⟩
  | [], _, _ :: _, _, j, out, .cons _ _, .nil, h => by cases h
  | o :: r, _, d :: ds, _, j, out, .cons r1 r2, .cons _ t, h => by
    simp only [bindP] at h ⊢
    cases e : bindP ks es (j + 1) ds r with
    | none => rw [e] at h; cases h
    | some out1 =>
      rw [e] at h
      cases h
      obtain ⟨o2, e2, t2⟩ := bindP_two ks he (j + 1) out1 r2 t e
      exact ⟨_, by rw [e2]; rfl, .cons r1 t2⟩
  | o :: r, _, [], _, j, out, .nil, .cons (b := o') q t, h => by
    simp only [bindP] at h ⊢
    have hl := Two.look (R := R) j ks he
    cases e : bindP ks es (j + 1) [] r with
    | none =>
      rw [e] at h
      cases e3 : (ks.zip es).lookup j with
      | none => rw [e3] at h; cases q <;> cases h
      | some _ => rw [e3] at h; cases h
    | some out1 =>
      rw [e] at h
      obtain ⟨o2, e2, t2⟩ := bindP_two ks he (j + 1) out1 .nil t e
      cases e3 : (ks.zip es).lookup j with
      | none =>
        rw [e3] at h hl
        cases e4 : (ks.zip fs).lookup j with
        | some _ => rw [e4] at hl; cases hl
        | none =>
          cases q with
          | no => cases h
          | so r0 => cases h; exact ⟨_, by rw [e2]; rfl, .cons r0 t2⟩
      | some a =>
        rw [e3] at h hl
        cases e4 : (ks.zip fs).lookup j with
        | none => rw [e4] at hl; cases hl
        | some b =>
          rw [e4] at hl
          cases hl with
          | so r0 => cases h; exact ⟨_, by rw [e2]; rfl, .cons r0 t2⟩
theorem two_vals {vs : List V} {us : List Value} : Vals vs us → Two RelV vs us := by
  intro r
  induction r with
  | nil => exact .nil
  | cons a _ ih => exact .cons a ih
theorem vals_two {vs : List V} {us : List Value} : Two RelV vs us → Vals vs us := by
  intro r
  induction r with
  | nil => exact .nil
  | cons a _ ih => exact .cons a ih
theorem two_ds {K : PySem.W.Frag} {g : Gh} {H : Hp} : ∀ {ds : List D} {vs : List V}, RelDs K g H ds vs → Two (RelD K g H) ds vs
  | _, _, .nil => .nil
  | _, _, .cons a t => .cons a (two_ds t)
theorem ds_two {K : PySem.W.Frag} {g : Gh} {H : Hp} : ∀ {ds : List D} {vs : List V}, Two (RelD K g H) ds vs → RelDs K g H ds vs
  | _, _, .nil => .nil
  | _, _, .cons a t => .cons a (ds_two t)
/-- the defaults fill the last places -/
def lastD {α : Type} (n : Nat) (its : List α) : List (Option α) := List.replicate (n - its.length) none ++ its.map some
theorem two_app {α β : Type} {R : α → β → Prop} : ∀ {a : List α} {b : List β} {c : List α} {d : List β}, Two R a b → Two R c d → Two R (a ++ c) (b ++ d)
  | _, _, _, _, .nil, h => h
  | _, _, _, _, .cons r t, h => .cons r (two_app t h)
theorem two_len {α β : Type} {R : α → β → Prop} : ∀ {a : List α} {b : List β}, Two R a b → a.length = b.length
  | _, _, .nil => rfl
  | _, _, .cons _ t => congrArg (· + 1) (two_len t)
theorem two_last {α β : Type} {R : α → β → Prop} (n : Nat) {a : List α} {b : List β} (h : Two R a b) : Two (Tw1 R) (lastD n a) (lastD n b) := by
  unfold lastD
  rw [two_len h]
  refine two_app ?_ ?_
  · induction n - b.length with
    | zero => exact .nil
    | succ k ih => exact .cons .no ih
  · induction h with
    | nil => exact .nil
    | cons r _ ih => exact .cons (.so r) ih
theorem bindP_len {α : Type} (ks : List Nat) (es : List α) : ∀ (dfl : List (Option α)) (ds : List α) (j : Nat) (out : List α), bindP ks es j ds dfl = some out → out.length = dfl.length
  | [], [], _, out, h => by cases h; rfl
  | [], _ :: _, _, out, h => by cases h
  | _ :: r, d :: ds, j, out, h => by
    simp only [bindP, Option.map_eq_some_iff] at h
    obtain ⟨o, e, rfl⟩ := h
    simp [bindP_len ks es r ds (j + 1) o e]
  | o :: r, [], j, out, h => by
    simp only [bindP] at h
    cases e3 : (ks.zip es).lookup j with
    | some e =>
      rw [e3] at h
      simp only [Option.map_eq_some_iff] at h
      obtain ⟨o, e, rfl⟩ := h
      simp [bindP_len ks es r [] (j + 1) o e]
    | none =>
      rw [e3] at h
      cases o with
      | none => cases h
      | some d =>
        simp only [Option.map_eq_some_iff] at h
        obtain ⟨o, e, rfl⟩ := h
        simp [bindP_len ks es r [] (j + 1) o e]
section
variable {K : PySem.W.Frag}
theorem sh_any {x qual : Str} {params : Arguments} {body : List Stmt} {scope : Scope} {dvs : List V} {kws : List (Str × V)} {f : Addr} {fd : FuncData} {ps : List Str} {dfl : List (Option D)} {sh : Nat × List Nat} {dds : List D} (F : FunD K x qual params body scope dvs kws f fd)
    (hd : dvs ≠ []) (hdd : dfl = lastD ps.length dds) (hr : ∀ g H, RelDs K g H dds dvs)
    (hln : (sh.2.filterMap fun k => ps[k]?).length = sh.2.length)
    (h : ∀ (T : Addr) (kV doc pm : Value) (an : Option Addr) (cdv ct : Value) (us its ws : List Value), us.length = sh.1 → its.length = dvs.length → ws.length = sh.2.length →
      ∃ k, bindArgs (PySem.W.fnOf x qual params body scope (.ref T) kV doc pm an cdv ct) ⟨us, (sh.2.filterMap fun k => ps[k]?).zip ws⟩ = seqItems? (.ref T) >>= k ∧ k (some its.toArray) = pure (ps.zip ((bindP sh.2 ws 0 us (lastD ps.length its)).getD []))) : ShOk K fd ps dfl sh := by
  obtain ⟨oc, od, dV, kV, doc, pm, an, cdv, ct, osl, rfl, lk, hcd, hD, hK⟩ := F.ex
  rcases hD with ⟨e, _⟩ | ⟨_, T, o, its, m, rfl, lT, oT, rT⟩
  · exact absurd e hd
  · refine ⟨fun us ws => (bindP sh.2 ws 0 us (lastD ps.length its)).getD [], fun vs zs => (bindP sh.2 zs 0 vs (lastD ps.length dvs)).getD [], ⟨fun s us ws X l1 l2 => ?_, fun {vs us zs ws} r1 r2 => ?_⟩, fun g H ds es args vs zs r1 r2 l1 l2 hb => ?_⟩
    · obtain ⟨k, e1, e2⟩ := h T kV doc pm an cdv ct us its ws l1 rT.length.symm (l2.trans hln)
      refine BindsTo.of_looks fun M => ?_
      rw [e1]
      exact looks_items X lT oT (.of_pure e2)
    · cases e : bindP sh.2 zs 0 vs (lastD ps.length dvs) with
      | some out =>
        obtain ⟨o', e', t⟩ := bindP_two sh.2 (two_vals r2) 0 out (two_vals r1) (two_last ps.length (two_vals rT)) e
        rw [e']
        exact vals_two t
      | none =>
        have flip : ∀ {α β : Type} {R : α → β → Prop} {a : List α} {b : List β}, Two R a b → Two (fun b a => R a b) b a := fun h => by
          induction h with
          | nil => exact .nil
          | cons r _ ih => exact .cons r ih
        cases e2 : bindP sh.2 ws 0 us (lastD ps.length its) with
        | none => exact .nil
        | some out =>
          obtain ⟨o', e', t⟩ := bindP_two (R := fun b a => RelV a b) sh.2 (flip (two_vals r2)) 0 out (flip (two_vals r1)) (two_last ps.length (flip (two_vals rT))) e2
          rw [e] at e'
          cases e'
    · have hb2 : bindP sh.2 es 0 ds dfl = some args := by rw [← bindD_eq]; exact hb
      refine ⟨?_, bindP_len _ _ _ _ _ _ hb2⟩
      rw [hdd] at hb2
      obtain ⟨o', e', t⟩ := bindP_two sh.2 (two_ds r2) 0 args (two_ds r1) (two_last ps.length (two_ds (hr g H))) hb2
      show RelDs K g H args ((bindP sh.2 zs 0 vs (lastD ps.length dvs)).getD [])
      rw [e']
      exact ds_two t
end
/-! ### the law's def, whatever the world -/
def CXW (P : Program) : CXT := fun outer H s E u s' => ∃ w, L2.CX P w outer H s E u s'
theorem fn_any {P : Program} {w : World} {K : PySem.W.Frag} {mg : Str → Option Value} {base : Heap} {k : Nat} {f : Addr} {fd : FuncData} {ps : List Str} {sp : Sp} (F : FnOk P w K mg base (L2.CX P w) k f fd ps sp) : FnOk P w K mg base (CXW P) k f fd ps sp :=
  ⟨F.len, fun A outer s H args us vs Q E hr e0 hb r h => codeAny_mono (F.run A outer s H args us vs Q E hr e0 hb r h) fun r s' q => by
    cases r with
    | ok v => cases v <;> exact q
    | error e => exact ⟨w, q⟩⟩
theorem cxw_false {P : Program} (H : Hp) (s : Shared) (e : Value) (s' : Shared) (h : CXW P [] H s (fun _ _ _ => False) e s') : False := by
  obtain ⟨w, h⟩ := h
  exact cx_false H s e s' h
end Fb

set_option linter.all false
set_option maxRecDepth 100000
set_option maxHeartbeats 1000000
namespace Fb
open PySem PySem.Spec L2
/-! ### own exception classes, looked at in the head's objects -/
def oexB (K : PySem.W.Frag) (C : Addr) : Bool :=
  (match K.lookup C with
  | some ⟨.type "type", _, .cls cd, sl⟩ => (match cd.mro, sl.toList with
    | .ref D :: bm, [_, _, _, _, some (.builtin n), _] => D == C && n == "ValueError.__new__" && !cd.hasDel && cd.hasDict && HandSPX.refsVE bm
    | _, _ => false)
  | _ => false) && decide (PySem.W.findIn K (.ref C) "__setattr__" = some (some (.builtin "object.__setattr__"))) && decide (PySem.W.subIn K (.ref C) (.type "BaseException") = some true) && decide (PySem.W.typeIn K (.ref C) = some (.type "type")) && PySem.W.keepIn K (.ref C)
theorem oexB_ok {K : PySem.W.Frag} {C : Addr} (h : oexB K C = true) : OexC K C := by
  obtain ⟨h, h5⟩ := andB h
  obtain ⟨h, h4⟩ := andB h
  obtain ⟨h, h3⟩ := andB h
  obtain ⟨h, h2⟩ := andB h
  refine ⟨?_, of_decide_eq_true h2, of_decide_eq_true h3, of_decide_eq_true h4, h5⟩
  split at h
  · rename_i dd cd sl ho
    split at h
    · rename_i C' bm k0 k1 k2 k3 n k5 hm hs
      simp only [Bool.and_eq_true, beq_iff_eq, Bool.not_eq_true'] at h
      obtain ⟨⟨⟨⟨e1, e2⟩, hdel⟩, hd⟩, hr⟩ := h
      subst e1
      subst e2
      obtain ⟨nm, bs, mro, ns, qn, hdct, sn, sub, ab, col, del⟩ := cd
      dsimp only at hm hdel hd
      subst hm hdel hd
      have hsl : sl = #[k0, k1, k2, k3, some (.builtin "ValueError.__new__"), k5] := by
        obtain ⟨l⟩ := sl
        simp only at hs
        rw [hs]
      subst hsl
      exact ⟨nm, qn, ns, bs, bm, sn, sub, ab, col, dd, k0, k1, k2, k3, k5, ho, hr⟩
    · cases h
  · cases h
abbrev veB : List Value := [.type "ValueError", .type "Exception", .type "BaseException", .type "object"]
/-- what all of them have -/
def xcB (K : PySem.W.Frag) (x : Str) : Bool := PySem.W.keepIn K (.ref (He.ga K x)) && decide (PySem.W.subIn K (.ref (He.ga K x)) (.type "BaseException") = some true) && decide (PySem.W.typeIn K (.ref (He.ga K x)) = some (.type "type")) && xfB K (He.ga K x)
/-- without an __init__ -/
def bareB (K : PySem.W.Frag) (x : Str) : Bool := PySem.W.excIn K (He.ga K x) veB "ValueError.__new__"
/-- with one -/
def initB (K : PySem.W.Frag) (x : Str) : Bool := oexB K (He.ga K x) && decide (PySem.W.findIn K (.ref (He.ga K x)) "__init__" = some (some (.ref (He.fAd K (x, some "__init__"))))) && decide (PySem.W.typeIn K (.ref (He.fAd K (x, some "__init__"))) = some (.type "function"))
def noF (K : PySem.W.Frag) (x : Str) (fl : List Str) : Bool := fl.all fun f => decide (PySem.W.findIn K (.ref (He.ga K x)) f = some none)
/-- the class whose __init__ they call -/
def baseB (K : PySem.W.Frag) (b : Str) : Bool := PySem.W.readsIn K (He.ga K b) (.type "type") && decide (PySem.W.specialIn K (.ref (He.ga K b)) "__getattribute__" = some (some (.builtin "type.__getattribute__"))) && (match PySem.W.findCls K (.ref (He.ga K b)) (.type "type") "__init__" with
  | some (.val (.builtin s)) => s == "ValueError.__init__"
  | _ => false)
/-- the classes (name, fields, the last one first), the table of subclasses -/
def clsAll (K : PySem.W.Frag) (b : Str) (cs : List (Str × List Str)) (sub : List (List Bool)) : Bool :=
  baseB K b && (cs.all fun c => xcB K c.1 && noF K c.1 c.2 && (if c.2.isEmpty then bareB K c.1 else initB K c.1)) &&
    ((List.range cs.length).all fun i => (List.range cs.length).all fun j => decide (PySem.W.exmOne K (.ref (He.ga K (cs.getD i ("", [])).1)) (.ref (He.ga K (cs.getD j ("", [])).1)) = some ((sub.getD i []).getD j false)))
theorem lk_mem {β : Type} {k : Nat} {v : β} : ∀ {l : List (Nat × β)}, l.lookup k = some v → (k, v) ∈ l
  | [], h => by cases h
  | (j, u) :: l, h => by
    rw [List.lookup_cons] at h
    cases e : k == j with
    | true => rw [e] at h; cases h; rw [beq_iff_eq.mp e]; exact List.mem_cons_self
    | false => rw [e] at h; exact List.mem_cons_of_mem _ (lk_mem h)
theorem clsAll_base {K : PySem.W.Frag} {b : Str} {cs : List (Str × List Str)} {sub : List (List Bool)} (h : clsAll K b cs sub = true) : baseB K b = true := (andB (andB h).1).1
theorem clsAll_at {K : PySem.W.Frag} {b : Str} {cs : List (Str × List Str)} {sub : List (List Bool)} (h : clsAll K b cs sub = true) : ∀ x ∈ cs, noF K x.1 x.2 = true ∧ (if x.2.isEmpty then bareB K x.1 else initB K x.1) = true := fun x hx => by
  obtain ⟨h1, h2⟩ := andB (List.all_eq_true.mp (andB (andB h).1).2 x hx)
  exact ⟨(andB h1).2, h2⟩
theorem TbF.mk {K : PySem.W.Frag} {mg : Str → Option Value} {base : Heap} {f : Addr} {qual : Str} (p : He.Defn) (h1 : He.fAd K p = f) (h2 : LamX.TabB base mg (He.cT K p).1 (He.cT K p).2) (h3 : ((He.cT K p).2, qual ++ ".<locals>." ++ "<lambda>") ∈ tau K) (h4 : ∀ q ∈ tau K, q.1 = (He.cT K p).2 → q.2 = qual ++ ".<locals>." ++ "<lambda>") : TbF K mg base f qual := ⟨p, h1, h2, h3, h4⟩
theorem xcB_ok {K : PySem.W.Frag} {x : Str} {mg : Str → Option Value} (h : xcB K x = true) (hm : mg x = some (.ref (He.ga K x))) : ClsFact K mg x (He.ga K x) ∧ XfC K (He.ga K x) := by
  obtain ⟨h, h4⟩ := andB h
  obtain ⟨h, h3⟩ := andB h
  obtain ⟨h1, h2⟩ := andB h
  exact ⟨⟨hm, h1, of_decide_eq_true h2, of_decide_eq_true h3⟩, xfB_ok h4⟩
theorem noF_ok {K : PySem.W.Frag} {x : Str} {fl : List Str} (h : noF K x fl = true) : ∀ f ∈ fl, PySem.W.findIn K (.ref (He.ga K x)) f = some none := fun f hf => of_decide_eq_true (List.all_eq_true.mp h f hf)
theorem baseB_ok {K : PySem.W.Frag} {b : Str} (h : baseB K b = true) : ClX.CRead K (He.ga K b) (.type "type") ∧ PySem.W.findCls K (.ref (He.ga K b)) (.type "type") "__init__" = some (.val (.builtin "ValueError.__init__")) := by
  obtain ⟨h, h3⟩ := andB h
  obtain ⟨h1, h2⟩ := andB h
  refine ⟨⟨h1, of_decide_eq_true h2⟩, ?_⟩
  split at h3
  · rename_i s e
    rw [e, beq_iff_eq.mp h3]
  · cases h3
/-- the __init__ of one field, of two fields -/
def init1B (b self p f : Str) : List Stmt → Bool
  | [.Expr (.Call (.Attribute (.Name b' _) m q2) [.Name s1 _, .Constant (.str _) _ _] [] q5) _, .Assign [.Attribute (.Name s2 _) f' _] (.Name p' _) _] => b' == b && m == ("__init__" : Str) && s1 == self && s2 == self && f' == f && p' == p && (q2.endLine == q5.line)
  | _ => false
def init2B (b self p f r f2 : Str) : List Stmt → Bool
  | [.Expr (.Call (.Attribute (.Name b' _) m q2) [.Name s1 _, .Constant (.str _) _ _] [] q5) _, .Assign [.Attribute (.Name s2 _) f' _] (.Name p' _) _, .Assign [.Attribute (.Name s3 _) f2' _] (.Name r' _) _] => b' == b && m == ("__init__" : Str) && s1 == self && s2 == self && f' == f && p' == p && (q2.endLine == q5.line) && s3 == self && f2' == f2 && r' == r
  | _ => false
theorem hev_of {b self t : Str} {j : Nat} {q1 q2 q3 q4 q5 : Pos} (hl : (q2.endLine == q5.line) = true) (env : Env) : ∃ pl : Sem Bool, eval (.Call (.Attribute (.Name b q1) "__init__" q2) [.Name self q3, .Constant (.str t) j q4] [] q5) env = (do
      let ov ← eval (.Name b q1) env
      standAt q2.atName
      let (f, first) ← holding [ov] (getMethod ov "__init__" pl)
      callWith q5 f first (backTo q5 (starEach [.Name self q3, .Constant (.str t) j q4] env)) (backToKw q5 (keywordEach [] env))) := by
  refine ⟨plainOf (.Name b q1) env, ?_⟩
  have h : eval (.Call (.Attribute (.Name b q1) "__init__" q2) [.Name self q3, .Constant (.str t) j q4] [] q5) env = (do
      let ov ← eval (.Name b q1) env
      standAt q2.atName
      methodCall (.Name b q1) "__init__" q2 q5 env ov 2 (backTo q5 (starEach [.Name self q3, .Constant (.str t) j q4] env)) (backToKw q5 (keywordEach [] env))) := rfl
  rw [h]
  congr 1
  funext ov
  congr 1
  funext _
  exact mcall_line rfl hl
section
variable {P : Program} {w : World} {K : PySem.W.Frag} {mg : Str → Option Value} {base : Heap} {x b self p f qual : Str} {params : Arguments} {body : List Stmt} {scope : Scope} {fd : FuncData}
theorem mk1 (hx : initB K x = true) (hn : noF K x [f] = true) (hb : baseB K b = true) (hm : mg b = some (.ref (He.ga K b))) (F : FunD K "__init__" qual params body scope [] [] (He.fAd K (x, some "__init__")) fd) (S : FnScope [self, p] [self, p] scope)
    (hB : init1B b self p f body = true) (hg : scope.names.lookup b = some .globalImplicit) (hs : visB scope self = true) (hp : visB scope p = true) (hd : (dbgB self && dbgB p && dbgB b) = true)
    (hbd : ∀ (kV doc pm : Value) (an : Option Addr) (cdv ct : Value) (us : List Value), us.length = 2 → bindArgs (PySem.W.fnOf "__init__" qual params body scope .none kV doc pm an cdv ct) ⟨us, []⟩ = pure ([self, p].zip us)) :
    MkX P w K mg base (He.ga K x) [f] := by
  obtain ⟨hx, hx3⟩ := andB hx
  obtain ⟨hx1, hx2⟩ := andB hx
  obtain ⟨hd, hd3⟩ := andB hd
  obtain ⟨hd1, hd2⟩ := andB hd
  obtain ⟨hr, hf⟩ := baseB_ok hb
  have hbi := FunD.bindsA (ps := [self, p]) F hbd
  unfold init1B at hB
  split at hB
  · simp only [Bool.and_eq_true, beq_iff_eq] at hB
    obtain ⟨⟨⟨⟨⟨⟨e1, e2⟩, e3⟩, e4⟩, e5⟩, e6⟩, e7⟩ := hB
    subst e1 e2 e3 e4 e5 e6
    refine .init ⟨oexB_ok hx1, of_decide_eq_true hx2, of_decide_eq_true hx3, noF_ok hn, by simp, fun s us X hl => ?_⟩ (init1 (oexB_ok hx1) (noF_ok hn _ (by simp)) hm hr hf (dbg_of hd3).1 F S hg (vis_of hs) (vis_of hp) ⟨(dbg_of hd1).1, (dbg_of hd1).2, (dbg_of hd2).1, (dbg_of hd2).2⟩ (hev_of (by simpa using e7))) (by simp)
    have := hbi s us (by simpa using hl)
    simpa using this
  · cases hB
theorem mk2 {r f2 : Str} (hx : initB K x = true) (hn : noF K x [f2, f] = true) (hb : baseB K b = true) (hm : mg b = some (.ref (He.ga K b))) (F : FunD K "__init__" qual params body scope [] [] (He.fAd K (x, some "__init__")) fd) (S : FnScope [self, p, r] [self, p, r] scope)
    (hB : init2B b self p f r f2 body = true) (hg : scope.names.lookup b = some .globalImplicit) (hs : visB scope self = true) (hp : visB scope p = true) (hr2 : visB scope r = true) (hd : (dbgB self && dbgB p && dbgB b && dbgB r) = true)
    (hbd : ∀ (kV doc pm : Value) (an : Option Addr) (cdv ct : Value) (us : List Value), us.length = 3 → bindArgs (PySem.W.fnOf "__init__" qual params body scope .none kV doc pm an cdv ct) ⟨us, []⟩ = pure ([self, p, r].zip us)) :
    MkX P w K mg base (He.ga K x) [f2, f] := by
  obtain ⟨hx, hx3⟩ := andB hx
  obtain ⟨hx1, hx2⟩ := andB hx
  obtain ⟨hd, hd4⟩ := andB hd
  obtain ⟨hd, hd3⟩ := andB hd
  obtain ⟨hd1, hd2⟩ := andB hd
  obtain ⟨hr, hf⟩ := baseB_ok hb
  have hbi := FunD.bindsA (ps := [self, p, r]) F hbd
  unfold init2B at hB
  split at hB
  · simp only [Bool.and_eq_true, beq_iff_eq] at hB
    obtain ⟨⟨⟨⟨⟨⟨⟨⟨⟨e1, e2⟩, e3⟩, e4⟩, e5⟩, e6⟩, e7⟩, e8⟩, e9⟩, e10⟩ := hB
    subst e1 e2 e3 e4 e5 e6 e8 e9 e10
    refine .init ⟨oexB_ok hx1, of_decide_eq_true hx2, of_decide_eq_true hx3, noF_ok hn, by simp, fun s us X hl => ?_⟩ (init2 (oexB_ok hx1) (noF_ok hn _ (by simp)) (noF_ok hn _ (by simp)) hm hr hf (dbg_of hd3).1 F S hg (vis_of hs) (vis_of hp) (vis_of hr2) ⟨(dbg_of hd1).1, (dbg_of hd1).2, (dbg_of hd2).1, (dbg_of hd2).2⟩ (dbg_of hd4) (hev_of (by simpa using e7))) (by simp)
    have := hbi s us (by simpa using hl)
    simpa using this
  · cases hB
theorem mk0 (hx : bareB K x = true) : MkX P w K mg base (He.ga K x) [] := .bare PySem.F.excBase_ValueError hx rfl
end
/-! ### the world around all defs -/
def A0 (cs : List (Str × List Str)) (K : PySem.W.Frag) : Cl := ⟨fun c => (cs[c]?).map fun x => He.ga K x.1, fun c => (cs.getD c ("", [])).2⟩
theorem world0 {G : Prg} {T : Nm} {P : Program} {w : World} {K : PySem.W.Frag} {mg : Str → Option Value} {base : Heap} {b : Str} {cs : List (Str × List Str)} {sub : List (List Bool)} (hm : Mono G) (hh : T.hot = false) (hall : clsAll K b cs sub = true)
    (hT : T.cls = cs.map (·.1)) (hg : ∀ x ∈ cs, mg x.1 = some (.ref (He.ga K x.1))) (hcf : ∀ c, G.cfld c = (cs.getD c ("", [])).2) (hsub : ∀ c c', G.sub c c' = (sub.getD c []).getD c' false)
    (hmk : ∀ x ∈ cs, MkX P w K mg base (He.ga K x.1) x.2) (hcon : ∀ k x d, T.cons[k]? = some x → G.con k = some d → ∃ u v, mg x = some u ∧ RelV v u ∧ ∀ g H, RelD K g H d v) (hbl : ∀ x ∈ bltNames, mg x = none) : World0 G (A0 cs K) T P w K mg base := by
  obtain ⟨h, h3⟩ := andB hall
  obtain ⟨h1, h2⟩ := andB h
  have at_ : ∀ c C, (A0 cs K).cadr c = some C → ∃ x, cs[c]? = some x ∧ C = He.ga K x.1 := fun c C e => by
    have e' : (cs[c]?).map (fun x => He.ga K x.1) = some C := e
    obtain ⟨x, e1, e2⟩ := Option.map_eq_some_iff.mp e'
    exact ⟨x, e1, e2.symm⟩
  have each : ∀ x ∈ cs, xcB K x.1 = true ∧ noF K x.1 x.2 = true := fun x hx => by
    have := List.all_eq_true.mp h2 x hx
    obtain ⟨q, _⟩ := andB this
    exact andB q
  refine ⟨hm, hh, fun c x e => ?_, fun c c' C C' e e' => ?_, fun c => (hcf c).symm, fun c C e => ?_, fun c C e => ?_, hcon, hbl⟩
  · rw [hT, List.getElem?_map] at e
    obtain ⟨y, e1, e2⟩ := Option.map_eq_some_iff.mp e
    subst e2
    have hy := List.mem_of_getElem? e1
    exact ⟨_, (show (cs[c]?).map (fun x => He.ga K x.1) = some (He.ga K y.1) by rw [e1]; rfl), (xcB_ok (each y hy).1 (hg y hy)).1⟩
  · obtain ⟨x, e1, rfl⟩ := at_ c C e
    obtain ⟨x', e1', rfl⟩ := at_ c' C' e'
    have hc := (List.getElem?_eq_some_iff.mp e1).1
    have hc' := (List.getElem?_eq_some_iff.mp e1').1
    have := of_decide_eq_true (List.all_eq_true.mp (List.all_eq_true.mp h3 c (List.mem_range.mpr hc)) c' (List.mem_range.mpr hc'))
    rw [List.getD_eq_getElem?_getD, e1, List.getD_eq_getElem?_getD, e1'] at this
    rw [hsub]
    exact this
  · obtain ⟨x, e1, rfl⟩ := at_ c C e
    have hy := List.mem_of_getElem? e1
    refine ⟨(xcB_ok (each x hy).1 (hg x hy)).2, ?_⟩
    rw [hcf, List.getD_eq_getElem?_getD, e1]
    exact noF_ok (each x hy).2
  · obtain ⟨x, e1, rfl⟩ := at_ c C e
    have hy := List.mem_of_getElem? e1
    rw [hcf, List.getD_eq_getElem?_getD, e1]
    exact hmk x hy
theorem world_lm {G : Prg} {A : Cl} {T : Nm} {P : Program} {w : World} {K : PySem.W.Frag} {mg : Str → Option Value} {base : Heap} (w0 : World0 G A T P w K mg base) : World0 G A { T with lm := true } P w K mg base :=
  ⟨w0.mono, w0.hot, w0.cls, w0.sub, w0.cf, w0.xf, w0.mkx, w0.con, w0.blt⟩
end Fb

set_option linter.all false
set_option maxRecDepth 100000
set_option maxHeartbeats 1000000
namespace Fb
open PySem PySem.Spec L2
/-! ### the head's facts: what the names reach, and the interpreter's own table -/
def KY (g : Addr → Option Obj) (n : Nat) : PySem.W.Frag := He.frT g (He.asD g n ++ [PySem.cStatics])
abbrev AlY : Type := He.AlD × Bool
def obsY (n : Nat) (fa : List He.Fa) (fn : List He.DefD) (tf : List He.Defn) (ex : PySem.W.Frag → Bool) (g : Addr → Option Obj) : AlY := (He.obsD fa fn (KY g n), ex (KY g n) && He.tabsB g tf (KY g n))
structure SaysY (fa : List He.Fa) (fn : List He.DefD) (tf : List He.Defn) (ex : PySem.W.Frag → Bool) (h : Heap) (K : PySem.W.Frag) : Prop where
  d : He.SaysD fa fn K
  more : ex K = true
  tabs : ∀ p ∈ tf, PySem.W.codeHdIn K (He.cT K p).1 (He.cT K p).2 = true ∧ K.lookup (He.cT K p).2 = none ∧ h.get? (He.cT K p).2 = some { cls := .none, data := .fields #[] }
theorem saysY_of {n : Nat} {fa : List He.Fa} {fn : List He.DefD} {tf : List He.Defn} {ex : PySem.W.Frag → Bool} {h : Heap} (e : obsY n fa fn tf ex h.get? = (He.valD fn, true)) : SaysY fa fn tf ex h (KY h.get? n) := by
  obtain ⟨h1, h2⟩ := andB (show (ex (KY h.get? n) && He.tabsB h.get? tf (KY h.get? n)) = true from congrArg (fun z : AlY => z.2) e)
  refine ⟨congrArg (fun z : AlY => z.1) e, h1, fun p hp => ?_⟩
  obtain ⟨h3, h4⟩ := andB (List.all_eq_true.mp h2 p hp)
  revert h4
  cases q : h.get? (He.cT (KY h.get? n) p).2 with
  | none => intro h4; cases h4
  | some o => exact fun h4 => ⟨h3, He.frT_none q h4, by rw [He.emptyTab_eq h4]⟩
def hookY (n : Nat) (fa : List He.Fa) (fn : List He.DefD) (tf : List He.Defn) (ex : PySem.W.Frag → Bool) : PySem.W.Hook where
  α := AlY
  obs s := obsY n fa fn tf ex s.heap.get?
  val _ := (He.valD fn, true)
  says _ h := ∃ K, PySem.W.Frag.In K h ∧ SaysY fa fn tf ex h K
  of _ _ e := ⟨_, He.frT_in, saysY_of e⟩
  keeps _ _ _ x k := let ⟨K, hK, c⟩ := x; ⟨K, hK.keeps k, c.d, c.more, fun p hp => let ⟨a, b, d⟩ := c.tabs p hp; ⟨a, b, k _ _ d⟩⟩
theorem obsY_eq {n : Nat} {fa : List He.Fa} {fn : List He.DefD} {tf : List He.Defn} {ex : PySem.W.Frag → Bool} {g : Addr → Option Obj} {s : Shared} (h : ∀ a, g a = s.heap.get? a) : obsY n fa fn tf ex g = (hookY n fa fn tf ex).obs s := by
  rw [show g = s.heap.get? from funext h]
  rfl
end Fb

set_option Elab.async false
set_option linter.all false
set_option maxRecDepth 100000
set_option maxHeartbeats 0
namespace K03
open PySem PySem.Spec L2 Fb
abbrev pw : Program := PySem.Challenge.pw_fillbehind_k03_what_statements_refuse
def topS (i : Nat) : Stmt := pw.main.body.getD i (.Pass ⟨0, 0, 0, 0⟩)
def N__law_checks_all : List Str := ["_law_found", "_law_word", "_law_row"]
def ir__law_checks_all : SL :=
    (.cons (.asg (.nm 0) (.disp false (.cons (.tup .nil) .nil)))
    (.cons (.for_ (.nm 1) (.seq (.disp false (.cons (.cst (.str "missing")) (.cons (.cst (.str "same old")) (.cons (.cst (.str "same new")) .nil))))) (.cons (.asg (.nm 0) (.cat false (.var 0) (.comp false (.nm 2) (.seq (.var 0)) .nil (.catT (.var 2) (.tup (.cons (.var 1) .nil))))))
    .nil))
    (.cons (.ret true (.var 0))
    .nil)))
def N__law_statements : List Str := ["_law_found", "_law_row", "_law_fresh", "_law_old"]
def ir__law_statements : SL :=
    (.cons (.asg (.nm 0) (.disp true (.cons (.tup (.cons (.cst (.str "insert")) (.cons (.cst (.str "none")) .nil))) (.cons (.tup (.cons (.cst (.str "insert")) (.cons (.cst (.str "now")) .nil))) .nil))))
    (.cons (.for_ (.nm 1) (.seq (.call 0 .nil [] .nil)) (.cons (.app (.var 0) (.tup (.cons (.cst (.str "delete")) (.cons (.var 1) .nil))))
    (.cons (.for_ (.nm 2) (.seq (.disp false (.cons (.cst (.str "none")) (.cons (.cst (.str "now")) (.cons (.cst (.str "read")) (.cons (.cst (.str "copy")) .nil)))))) (.cons (.app (.var 0) (.tup (.cons (.cst (.str "put")) (.cons (.var 2) (.cons (.var 1) .nil)))))
    .nil))
    (.cons (.for_ (.nm 3) (.seq (.disp false (.cons (.cst (.str "keep")) (.cons (.cst (.str "input")) (.cons (.cst (.str "read")) .nil))))) (.cons (.asg (.nm 0) (.cat true (.var 0) (.comp false (.nm 2) (.seq (.disp false (.cons (.cst (.str "keep")) (.cons (.cst (.str "none")) (.cons (.cst (.str "now")) (.cons (.cst (.str "read")) (.cons (.cst (.str "copy")) .nil))))))) .nil (.tup (.cons (.cst (.str "set")) (.cons (.var 3) (.cons (.var 2) (.cons (.var 1) .nil))))))))
    .nil))
    .nil))))
    (.cons (.ret true (.var 0))
    .nil)))
def N__law_well : List Str := ["_law_script", "_law_at", "_law_cell"]
def ir__law_well : SL :=
    (.cons (.asg (.nm 2) (.idx (.cat false (.var 0) (.rep false (.disp false (.cons (.cst (.int 0)) .nil)) (.bin .add (.var 1) (.cst (.int 1))))) (.var 1)))
    (.cons (.ret false (.disp true (.cons (.bin .mul (.var 2) (.int1 (.cmp .ge (.var 2) (.bin .pow (.cst (.int 10)) (.cst (.int 18)))))) (.cons (.bin .add (.bin .mod (.int1 (.var 2)) (.cst (.int 2147483647))) (.bin .mul (.cst (.int 7919)) (.var 1))) (.cons (.cst (.int 0)) .nil)))))
    .nil))
def N__law_draw : List Str := ["_law_well_here", "_law_much", "_law_blend", "_law_digit"]
def ir__law_draw : SL :=
    (.cons (.ifs (.cmp .gt (.idx (.var 0) (.cst (.int 0))) (.cst (.int 0))) (.cons (.asg (.nm 3) (.bin .mod (.int1 (.idx (.var 0) (.cst (.int 0)))) (.var 1)))
    (.cons (.sub (.var 0) (.cst (.int 0)) (.bin .fdiv (.idx (.var 0) (.cst (.int 0))) (.var 1)))
    (.cons (.ret true (.var 3))
    .nil))) .nil)
    (.cons (.sub (.var 0) (.cst (.int 2)) (.bin .add (.idx (.var 0) (.cst (.int 2))) (.cst (.int 1))))
    (.cons (.asg (.nm 2) (.bin .mod (.int1 (.bin .mul (.bin .add (.bin .add (.idx (.var 0) (.cst (.int 1))) (.bin .mul (.cst (.int 40087)) (.idx (.var 0) (.cst (.int 2))))) (.cst (.int 11))) (.cst (.int 48271)))) (.cst (.int 2147483647))))
    (.cons (.asg (.nm 2) (.bin .mod (.int1 (.bin .mul (.var 2) (.bin .add (.bin .fdiv (.var 2) (.cst (.int 1021))) (.cst (.int 69691))))) (.cst (.int 2147483587))))
    (.cons (.ret false (.bin .mod (.int1 (.bin .mod (.int1 (.bin .mul (.var 2) (.bin .add (.bin .fdiv (.var 2) (.cst (.int 2017))) (.cst (.int 40699))))) (.cst (.int 2147483399)))) (.var 1)))
    .nil)))))
def N__law_one : List Str := ["_law_well_here", "_law_some"]
def ir__law_one : SL :=
    (.cons (.ret false (.idx (.var 1) (.call 3 (.cons (.var 0) (.cons (.len (.var 1)) .nil)) [] .nil)))
    .nil)
def N__law_odd_row : List Str := ["_law_well_here", "_law_some"]
def ir__law_odd_row : SL :=
    (.cons (.asg (.nm 1) (.disp false (.cons (.cst (.int 5)) (.cons (.cst (.bl true)) (.cons (.tup .nil) (.cons (.tup (.cons (.cst (.int 1)) .nil)) (.cons (.tup (.cons (.cst (.int 1)) (.cons (.cst (.int 2)) (.cons (.cst (.int 3)) .nil)))) (.cons (.disp false (.cons (.cst (.int 1)) (.cons (.cst (.int 2)) .nil))) (.cons (.disp false (.cons (.cst (.int 1)) (.cons (.cst .non) .nil))) (.cons (.tup (.cons (.cst (.bl true)) (.cons (.cst (.int 1)) .nil))) (.cons (.tup (.cons (.cst (.int 1)) (.cons (.cst (.bl true)) .nil))) (.cons (.tup (.cons (.cst .non) (.cons (.cst (.int 1)) .nil))) (.cons (.tup (.cons (.cst (.str "1")) (.cons (.cst (.int 2)) .nil))) (.cons .dnew (.cons (.cst (.str "")) (.cons (.tup (.cons (.cst (.int 1)) (.cons (.tup .nil) .nil))) .nil))))))))))))))))
    (.cons (.ret false (.call 4 (.cons (.var 0) (.cons (.cat false (.var 1) (.disp false (.cons (.dict1 (.cst (.int 1)) (.cst (.int 2))) (.cons (.tup (.cons (.tup (.cons (.cst (.int 1)) (.cons (.cst (.int 2)) .nil))) .nil)) (.cons (.tup (.cons (.cst (.int 1)) (.cons (.cst (.str "2")) .nil))) (.cons (.disp false (.cons (.disp false .nil) .nil)) (.cons (.tup (.cons (.disp false (.cons (.cst (.int 1)) .nil)) (.cons (.cst (.int 2)) .nil))) .nil))))))) .nil)) [] .nil))
    .nil))
def N__law_needs_read : List Str := ["_law_step", "_law_words", "_law_one_here"]
def ir__law_needs_read : SL :=
    (.cons (.ifs (.eq false (.idx (.var 0) (.cst (.int 0))) (.cst (.str "insert"))) (.cons (.ret false (.cst (.bl false)))
    .nil) .nil)
    (.cons (.asg (.nm 1) (.cat false (.lof false (.slcT (.var 0) (.so (.cst (.int 1))) (.so (.neg (.cst (.int 1)))))) (.lof false (.idx (.var 0) (.neg (.cst (.int 1)))))))
    (.cons (.ret false (.bor (.cons (.eq false (.idx (.var 0) (.cst (.int 0))) (.cst (.str "put"))) (.cons (.eq true (.comp false (.nm 2) (.seq (.var 1)) (.cons (.inn false (.var 2) (.disp false (.cons (.cst (.str "read")) (.cons (.cst (.str "copy")) (.cons (.cst (.str "same old")) (.cons (.cst (.str "same new")) .nil)))))) .nil) (.cst (.int 1))) (.disp false .nil)) .nil))))
    .nil)))
def N__law_needs_input : List Str := ["_law_step"]
def ir__law_needs_input : SL :=
    (.cons (.ret false (.bor (.cons (.eq false (.idx (.var 0) (.cst (.int 0))) (.cst (.str "insert"))) (.cons (.eq false (.slcT (.var 0) .no (.so (.cst (.int 2)))) (.tup (.cons (.cst (.str "set")) (.cons (.cst (.str "input")) .nil)))) .nil))))
    .nil)
def N_is_word : List Str := ["value", "words"]
def ir_is_word : SL :=
    (.cons (.ret false (.band (.cons (.isi (.var 0) [.str]) (.cons (.inn false (.var 0) (.var 1)) .nil))))
    .nil)
def N_is_words : List Str := ["value", "words", "word", "one"]
def ir_is_words : SL :=
    (.cons (.ifs (.bor (.cons (.not (.isi (.var 0) [.tuple])) (.cons (.not (.all (.comp false (.nm 3) (.seq (.var 0)) .nil (.call 8 (.cons (.var 3) (.cons (.var 1) .nil)) [] .nil)))) .nil))) (.cons (.ret false (.cst (.bl false)))
    .nil) .nil)
    (.cons (.ret false (.eq false (.comp false (.nm 2) (.seq (.var 1)) (.cons (.inn false (.var 2) (.var 0)) .nil) (.var 2)) (.lof false (.var 0))))
    .nil))
def N_is_statement : List Str := ["value", "word", "parts"]
def ir_is_statement : SL :=
    (.cons (.ifs (.bor (.cons (.not (.isi (.var 0) [.tuple])) (.cons (.eq false (.var 0) (.tup .nil)) (.cons (.not (.isi (.idx (.var 0) (.cst (.int 0))) [.str])) .nil)))) (.cons (.ret false (.cst (.bl false)))
    .nil) .nil)
    (.cons (.par 1 2 (.idx (.var 0) (.cst (.int 0))) (.slcT (.var 0) (.so (.cst (.int 1))) .no))
    (.cons (.ifs (.eq false (.var 1) (.cst (.str "set"))) (.cons (.ret false (.band (.cons (.eq false (.len (.var 2)) (.cst (.int 3))) (.cons (.call 8 (.cons (.idx (.var 2) (.cst (.int 0))) (.cons (.gcon 2) .nil)) [] .nil) (.cons (.call 8 (.cons (.idx (.var 2) (.cst (.int 1))) (.cons (.gcon 1) .nil)) [] .nil) (.cons (.call 9 (.cons (.idx (.var 2) (.cst (.int 2))) (.cons (.gcon 0) .nil)) [] .nil) .nil))))))
    .nil) .nil)
    (.cons (.ifs (.eq false (.var 1) (.cst (.str "put"))) (.cons (.ret false (.band (.cons (.eq false (.len (.var 2)) (.cst (.int 2))) (.cons (.call 8 (.cons (.idx (.var 2) (.cst (.int 0))) (.cons (.slcT (.gcon 1) (.so (.cst (.int 1))) .no) .nil)) [] .nil) (.cons (.call 9 (.cons (.idx (.var 2) (.cst (.int 1))) (.cons (.gcon 0) .nil)) [] .nil) .nil)))))
    .nil) .nil)
    (.cons (.ifs (.eq false (.var 1) (.cst (.str "insert"))) (.cons (.ret false (.band (.cons (.eq false (.len (.var 2)) (.cst (.int 1))) (.cons (.call 8 (.cons (.idx (.var 2) (.cst (.int 0))) (.cons (.slcT (.gcon 1) (.so (.cst (.int 1))) (.so (.cst (.int 3)))) .nil)) [] .nil) .nil))))
    .nil) .nil)
    (.cons (.ret false (.band (.cons (.eq false (.var 1) (.cst (.str "delete"))) (.cons (.eq false (.len (.var 2)) (.cst (.int 1))) (.cons (.call 9 (.cons (.idx (.var 2) (.cst (.int 0))) (.cons (.gcon 0) .nil)) [] .nil) .nil)))))
    .nil))))))
def N_check_statement : List Str := ["value"]
def ir_check_statement : SL :=
    (.cons (.ifs (.not (.call 10 (.cons (.var 0) .nil) [] .nil)) (.cons (.raise 1 .nil)
    .nil) .nil)
    .nil)
def N_new_source : List Str := ["word", "row", "old", "seen"]
def ir_new_source : SL :=
    (.cons (.ifs (.eq false (.var 0) (.cst (.str "keep"))) (.cons (.ret false (.idx (.var 1) (.cst (.int 1))))
    .nil) .nil)
    (.cons (.ifs (.eq false (.var 0) (.cst (.str "none"))) (.cons (.ret false (.cst .non))
    .nil) .nil)
    (.cons (.ifs (.eq false (.var 0) (.cst (.str "now"))) (.cons (.ret true (.var 2))
    .nil) .nil)
    (.cons (.ret false (.ite (.eq false (.var 0) (.cst (.str "read"))) (.idx (.var 3) (.cst (.int 0))) (.idx (.var 3) (.cst (.int 1)))))
    .nil))))
def N_row_made : List Str := ["statement", "value", "seen"]
def ir_row_made : SL :=
    (.cons (.ifs (.eq false (.idx (.var 0) (.cst (.int 0))) (.cst (.str "insert"))) (.cons (.ret false (.tup (.cons (.tup (.cons (.var 1) (.cons (.ite (.eq false (.idx (.var 0) (.cst (.int 1))) (.cst (.str "now"))) (.var 1) (.cst .non)) .nil))) (.cons (.cst (.bl true)) .nil))))
    .nil) .nil)
    (.cons (.ifs (.band (.cons (.eq false (.idx (.var 0) (.cst (.int 0))) (.cst (.str "put"))) (.cons (.eq false (.idx (.var 0) (.cst (.int 2))) (.tup .nil)) .nil))) (.cons (.ret false (.tup (.cons (.tup (.cons (.idx (.var 2) (.cst (.int 0))) (.cons (.call 12 (.cons (.idx (.var 0) (.cst (.int 1))) (.cons (.cst .non) (.cons (.idx (.var 2) (.cst (.int 0))) (.cons (.var 2) .nil)))) [] .nil) .nil))) (.cons (.cst (.bl true)) .nil))))
    .nil) .nil)
    (.cons (.ret false (.tup (.cons (.cst .non) (.cons (.cst (.bl false)) .nil))))
    .nil)))
def N_fails : List Str := ["check", "row", "seen"]
def ir_fails : SL :=
    (.cons (.ifs (.eq false (.var 0) (.cst (.str "missing"))) (.cons (.ret false (.isN true (.idx (.var 1) (.cst (.int 1)))))
    .nil) .nil)
    (.cons (.ifs (.eq false (.var 0) (.cst (.str "same old"))) (.cons (.ret false (.eq true (.idx (.var 1) (.cst (.int 0))) (.idx (.var 2) (.cst (.int 0)))))
    .nil) .nil)
    (.cons (.ret false (.eq true (.idx (.var 1) (.cst (.int 1))) (.idx (.var 2) (.cst (.int 1)))))
    .nil)))
def N_checks_of : List Str := ["statement"]
def ir_checks_of : SL :=
    (.cons (.ret false (.ite (.eq false (.idx (.var 0) (.cst (.int 0))) (.cst (.str "insert"))) (.tup .nil) (.idx (.var 0) (.neg (.cst (.int 1))))))
    .nil)
def N_done_to : List Str := ["statement", "row", "value", "seen", "old", "check"]
def ir_done_to : SL :=
    (.cons (.ifs (.isN false (.var 1)) (.cons (.ret false (.call 13 (.cons (.var 0) (.cons (.var 2) (.cons (.var 3) .nil))) [] .nil))
    .nil) .nil)
    (.cons (.ifs (.bor (.cons (.eq false (.idx (.var 0) (.cst (.int 0))) (.cst (.str "insert"))) (.cons (.any (.comp false (.nm 5) (.seq (.call 15 (.cons (.var 0) .nil) [] .nil)) .nil (.call 14 (.cons (.var 5) (.cons (.var 1) (.cons (.var 3) .nil))) [] .nil))) .nil))) (.cons (.ret false (.tup (.cons (.var 1) (.cons (.cst (.bl false)) .nil))))
    .nil) .nil)
    (.cons (.ifs (.eq false (.idx (.var 0) (.cst (.int 0))) (.cst (.str "delete"))) (.cons (.ret false (.tup (.cons (.cst .non) (.cons (.cst (.bl true)) .nil))))
    .nil) .nil)
    (.cons (.ifs (.eq false (.idx (.var 0) (.cst (.int 0))) (.cst (.str "put"))) (.cons (.ret false (.tup (.cons (.tup (.cons (.idx (.var 3) (.cst (.int 0))) (.cons (.call 12 (.cons (.idx (.var 0) (.cst (.int 1))) (.cons (.var 1) (.cons (.idx (.var 3) (.cst (.int 0))) (.cons (.var 3) .nil)))) [] .nil) .nil))) (.cons (.cst (.bl true)) .nil))))
    .nil) .nil)
    (.cons (.asg (.nm 4) (.idx (.var 1) (.cst (.int 0))))
    (.cons (.ifs (.eq true (.idx (.var 0) (.cst (.int 1))) (.cst (.str "keep"))) (.cons (.asg (.nm 4) (.ite (.eq false (.idx (.var 0) (.cst (.int 1))) (.cst (.str "input"))) (.var 2) (.idx (.var 3) (.cst (.int 0)))))
    .nil) .nil)
    (.cons (.ret false (.tup (.cons (.tup (.cons (.var 4) (.cons (.call 12 (.cons (.idx (.var 0) (.cst (.int 2))) (.cons (.var 1) (.cons (.var 4) (.cons (.var 3) .nil)))) [] .nil) .nil))) (.cons (.cst (.bl true)) .nil))))
    .nil)))))))
def N_needs_input : List Str := ["statement"]
def ir_needs_input : SL :=
    (.cons (.expr (.call 11 (.cons (.var 0) .nil) [] .nil))
    (.cons (.ret false (.bor (.cons (.eq false (.idx (.var 0) (.cst (.int 0))) (.cst (.str "insert"))) (.cons (.band (.cons (.eq false (.idx (.var 0) (.cst (.int 0))) (.cst (.str "set"))) (.cons (.eq false (.idx (.var 0) (.cst (.int 1))) (.cst (.str "input"))) .nil))) .nil))))
    .nil))
def N_needs_read : List Str := ["statement", "words", "word"]
def ir_needs_read : SL :=
    (.cons (.expr (.call 11 (.cons (.var 0) .nil) [] .nil))
    (.cons (.asg (.nm 1) (.ite (.eq false (.idx (.var 0) (.cst (.int 0))) (.cst (.str "insert"))) (.slcT (.var 0) (.so (.cst (.int 1))) .no) (.slcT (.var 0) (.so (.cst (.int 1))) (.so (.neg (.cst (.int 1)))))))
    (.cons (.ret false (.bor (.cons (.eq false (.idx (.var 0) (.cst (.int 0))) (.cst (.str "put"))) (.cons (.any (.comp false (.nm 2) (.seq (.catT (.var 1) (.call 15 (.cons (.var 0) .nil) [] .nil))) .nil (.inn false (.var 2) (.gcon 3)))) .nil))))
    .nil)))
def N_is_int : List Str := ["value"]
def ir_is_int : SL :=
    (.cons (.ret false (.band (.cons (.isi (.var 0) [.int]) (.cons (.not (.isi (.var 0) [.bool])) .nil))))
    .nil)
def N_is_row : List Str := ["value"]
def ir_is_row : SL :=
    (.cons (.ifs (.bor (.cons (.not (.isi (.var 0) [.tuple])) (.cons (.eq true (.len (.var 0)) (.cst (.int 2))) (.cons (.not (.call 19 (.cons (.idx (.var 0) (.cst (.int 0))) .nil) [] .nil)) .nil)))) (.cons (.ret false (.cst (.bl false)))
    .nil) .nil)
    (.cons (.ret false (.bor (.cons (.isN false (.idx (.var 0) (.cst (.int 1)))) (.cons (.call 19 (.cons (.idx (.var 0) (.cst (.int 1))) .nil) [] .nil) .nil))))
    .nil))
def N_applied : List Str := ["statement", "row", "value", "seen"]
def ir_applied : SL :=
    (.cons (.expr (.call 11 (.cons (.var 0) .nil) [] .nil))
    (.cons (.ifs (.band (.cons (.isN true (.var 1)) (.cons (.not (.call 20 (.cons (.var 1) .nil) [] .nil)) .nil))) (.cons (.raise 2 (.cons (.cst (.str "row")) .nil))
    .nil) .nil)
    (.cons (.ifs (.band (.cons (.call 17 (.cons (.var 0) .nil) [] .nil) (.cons (.not (.call 19 (.cons (.var 2) .nil) [] .nil)) .nil))) (.cons (.raise 2 (.cons (.cst (.str "value")) .nil))
    .nil) .nil)
    (.cons (.ifs (.band (.cons (.call 18 (.cons (.var 0) .nil) [] .nil) (.cons (.not (.call 20 (.cons (.var 3) .nil) [] .nil)) .nil))) (.cons (.raise 2 (.cons (.cst (.str "seen")) .nil))
    .nil) .nil)
    (.cons (.ret false (.call 16 (.cons (.var 0) (.cons (.var 1) (.cons (.var 2) (.cons (.var 3) .nil)))) [] .nil))
    .nil)))))
def N_law : List Str := ["_law_script", "_law_steps", "_law_k", "_law_well_here", "_law_turn", "_law_step", "_law_row", "_law_ways", "_law_bad", "_law_thing", "_law_place", "_law_value", "_law_seen", "_law_due", "_law_part"]
def s_law_1 : IS := (.asg (.nm 1) (.call 1 .nil [] .nil))
def s_law_2 : IS := (.asg (.nm 3) (.call 2 (.cons (.var 0) (.cons (.var 2) .nil)) [] .nil))
def s_law_3 : IS := (.asg (.nm 5) (.call 4 (.cons (.var 3) (.cons (.var 1) .nil)) [] .nil))
def s_law_4 : IS := (.asg (.nm 6) (.call 4 (.cons (.var 3) (.cons (.disp false (.cons (.cst .non) (.cons (.tup (.cons (.cst (.int 4)) (.cons (.cst .non) .nil))) (.cons (.tup (.cons (.cst (.int 4)) (.cons (.cst (.int 7)) .nil))) .nil)))) .nil)) [] .nil))
def s_law_5 : IS := (.asg (.nm 7) (.comp false (.nm 14) (.rng (.cst (.int 4))) .nil (.call 3 (.cons (.var 3) (.cons (.cst (.int 3)) .nil)) [] .nil)))
def s_law_6 : IS := (.asg (.nm 8) (.disp false (.cons (.cst .non) (.cons (.tup .nil) (.cons (.lof false (.var 5)) (.cons (.idx (.var 5) (.cst (.int 0))) (.cons (.catT (.var 5) (.tup (.cons (.tup .nil) .nil))) (.cons (.cst (.int 5)) (.cons .dnew .nil)))))))))
def s_law_7 : IS := (.asg (.nm 9) (.ite (.eq false (.idx (.var 7) (.cst (.int 0))) (.cst (.int 0))) (.call 4 (.cons (.var 3) (.cons (.var 8) .nil)) [] .nil) (.var 5)))
def s_law_8 : IS := (.asg (.nm 10) (.ite (.eq false (.idx (.var 7) (.cst (.int 1))) (.cst (.int 0))) (.call 5 (.cons (.var 3) .nil) [] .nil) (.var 6)))
def s_law_9 : IS := (.asg (.nm 11) (.ite (.eq false (.idx (.var 7) (.cst (.int 2))) (.cst (.int 0))) (.call 4 (.cons (.var 3) (.cons (.disp false (.cons (.cst .non) (.cons (.cst (.bl true)) (.cons (.cst (.str "7")) (.cons (.tup (.cons (.cst (.int 7)) .nil)) (.cons (.disp false (.cons (.cst (.int 7)) .nil)) (.cons .dnew .nil))))))) .nil)) [] .nil) (.cst (.int 7))))
def s_law_10 : IS := (.asg (.nm 12) (.ite (.eq false (.idx (.var 7) (.cst (.int 3))) (.cst (.int 0))) (.call 4 (.cons (.var 3) (.cons (.disp false (.cons (.cst .non) (.cons (.call 5 (.cons (.var 3) .nil) [] .nil) .nil))) .nil)) [] .nil) (.tup (.cons (.cst (.int 2)) (.cons (.cst (.int 4)) .nil)))))
def s_law_11 : IS := (.asg (.nm 13) (.cst (.str "none")))
def s_law_12 : IS := (.asg (.nm 13) (.cst (.str "seen")))
def s_law_13 : IS := (.ifs (.band (.cons (.eq false (.idx (.var 7) (.cst (.int 3))) (.cst (.int 0))) (.cons (.call 6 (.cons (.var 5) .nil) [] .nil) .nil))) (.cons s_law_12 .nil) .nil)
def s_law_14 : IS := (.asg (.nm 13) (.cst (.str "value")))
def s_law_15 : IS := (.ifs (.band (.cons (.eq false (.idx (.var 7) (.cst (.int 2))) (.cst (.int 0))) (.cons (.call 7 (.cons (.var 5) .nil) [] .nil) .nil))) (.cons s_law_14 .nil) .nil)
def s_law_16 : IS := (.asg (.nm 13) (.cst (.str "row")))
def s_law_17 : IS := (.ifs (.eq false (.idx (.var 7) (.cst (.int 1))) (.cst (.int 0))) (.cons s_law_16 .nil) .nil)
def s_law_18 : IS := (.asg (.nm 13) (.cst (.str "step")))
def s_law_19 : IS := (.ifs (.eq false (.idx (.var 7) (.cst (.int 0))) (.cst (.int 0))) (.cons s_law_18 .nil) .nil)
def s_law_20 : IS := (.ret false (.cst (.bl false)))
def s_law_21 : IS := (.ifs (.eq true (.lcall 23 (.call 21 (.cons (.var 9) (.cons (.var 10) (.cons (.var 11) (.cons (.var 12) .nil)))) [] .nil)) (.var 13)) (.cons s_law_20 .nil) .nil)
def s_law_22 : IS := (.for_ (.nm 4) (.rng (.cst (.int 12))) (.cons s_law_3 (.cons s_law_4 (.cons s_law_5 (.cons s_law_6 (.cons s_law_7 (.cons s_law_8 (.cons s_law_9 (.cons s_law_10 (.cons s_law_11 (.cons s_law_13 (.cons s_law_15 (.cons s_law_17 (.cons s_law_19 (.cons s_law_21 .nil)))))))))))))))
def s_law_23 : IS := (.for_ (.nm 2) (.rng (.bin .add (.len (.var 0)) (.cst (.int 1)))) (.cons s_law_2 (.cons s_law_22 .nil)))
def s_law_24 : IS := (.ret false (.eq false (.lcall 23 (.call 21 (.cons (.tup (.cons (.cst (.str "insert")) (.cons (.cst (.str "none")) .nil))) (.cons (.cst .non) .nil)) [] .nil)) (.cst (.str "value"))))
def ir_law : SL :=
    (.cons s_law_1 (.cons s_law_23 (.cons s_law_24 .nil)))
def N__law_said : List Str := ["_law_ask", "e"]
def ir__law_said : SL :=
    (.cons (.try_ (.cons (.expr (.act 0))
    .nil) [⟨1, none, (.cst (.str "step"))⟩, ⟨2, (some 1), (.xfld (.var 1) "part")⟩, ⟨0, none, (.cst (.str "other"))⟩])
    (.cons (.ret false (.cst (.str "none")))
    .nil))
def nm : Nm := { fns := [("_law_checks_all", [], [(0, [])]),
  ("_law_statements", [], [(0, [])]),
  ("_law_well", ["_law_script", "_law_at"], [(2, [])]),
  ("_law_draw", ["_law_well_here", "_law_much"], [(2, [])]),
  ("_law_one", ["_law_well_here", "_law_some"], [(2, [])]),
  ("_law_odd_row", ["_law_well_here"], [(1, [])]),
  ("_law_needs_read", ["_law_step"], [(1, [])]),
  ("_law_needs_input", ["_law_step"], [(1, [])]),
  ("is_word", ["value", "words"], [(2, [])]),
  ("is_words", ["value", "words"], [(2, [])]),
  ("is_statement", ["value"], [(1, [])]),
  ("check_statement", ["value"], [(1, [])]),
  ("new_source", ["word", "row", "old", "seen"], [(4, [])]),
  ("row_made", ["statement", "value", "seen"], [(3, [])]),
  ("fails", ["check", "row", "seen"], [(3, [])]),
  ("checks_of", ["statement"], [(1, [])]),
  ("done_to", ["statement", "row", "value", "seen"], [(4, [])]),
  ("needs_input", ["statement"], [(1, [])]),
  ("needs_read", ["statement"], [(1, [])]),
  ("is_int", ["value"], [(1, [])]),
  ("is_row", ["value"], [(1, [])]),
  ("applied", ["statement", "row", "value", "seen"], [(4, []), (2, [])]),
  ("law", ["_law_script"], [])], cons := ["CHECKS", "NEWS", "OLDS", "READS"], cls := ["FillError", "NoStatement", "NoRow"], lev := [0, 1, 0, 0, 1, 2, 0, 0, 0, 1, 2, 3, 0, 1, 0, 0, 2, 4, 4, 0, 1, 5, 6, 0], tks := [(23, "_law_said")] }
def clsD : List (Str × List Str) := [("FillError", []), ("NoStatement", []), ("NoRow", ["part"])]
def cfldD : List (List Str) := [[], [], ["part"]]
def subD : List (List Bool) := [[true, false, false], [true, true, false], [true, false, true]]
def conD : List D := [(.tup [(.str "missing"), (.str "same old"), (.str "same new")]), (.tup [(.str "keep"), (.str "none"), (.str "now"), (.str "read"), (.str "copy")]), (.tup [(.str "keep"), (.str "input"), (.str "read")]), (.tup [(.str "read"), (.str "copy"), (.str "same old"), (.str "same new")])]
def dflD : List (List (Option D)) := [[], [], [none, none], [none, none], [none, none], [none], [none], [none], [none, none], [none, none], [none], [none], [none, none, none, none], [none, none, none], [none, none, none], [none], [none, none, none, none], [none], [none], [none], [none], [none, none, some .non, some .non], [none]]
theorem m__law_checks_all : mSs nm 0 N__law_checks_all ir__law_checks_all (defScope (topS 27)) (defBody (topS 27)) = true := by decide +kernel
theorem sc__law_checks_all : FnScope N__law_checks_all [] (defScope (topS 27)) := ⟨rfl, rfl, rfl, by decide +kernel, rfl, by decide +kernel, by decide +kernel⟩
theorem m__law_statements : mSs nm 1 N__law_statements ir__law_statements (defScope (topS 28)) (defBody (topS 28)) = true := by decide +kernel
theorem sc__law_statements : FnScope N__law_statements [] (defScope (topS 28)) := ⟨rfl, rfl, rfl, by decide +kernel, rfl, by decide +kernel, by decide +kernel⟩
theorem m__law_well : mSs nm 0 N__law_well ir__law_well (defScope (topS 25)) (defBody (topS 25)) = true := by decide +kernel
theorem sc__law_well : FnScope N__law_well ["_law_script", "_law_at"] (defScope (topS 25)) := ⟨rfl, rfl, rfl, by decide +kernel, rfl, by decide +kernel, by decide +kernel⟩
theorem m__law_draw : mSs nm 0 N__law_draw ir__law_draw (defScope (topS 24)) (defBody (topS 24)) = true := by decide +kernel
theorem sc__law_draw : FnScope N__law_draw ["_law_well_here", "_law_much"] (defScope (topS 24)) := ⟨rfl, rfl, rfl, by decide +kernel, rfl, by decide +kernel, by decide +kernel⟩
theorem m__law_one : mSs nm 1 N__law_one ir__law_one (defScope (topS 26)) (defBody (topS 26)) = true := by decide +kernel
theorem sc__law_one : FnScope N__law_one ["_law_well_here", "_law_some"] (defScope (topS 26)) := ⟨rfl, rfl, rfl, by decide +kernel, rfl, by decide +kernel, by decide +kernel⟩
theorem m__law_odd_row : mSs nm 2 N__law_odd_row ir__law_odd_row (defScope (topS 32)) (defBody (topS 32)) = true := by decide +kernel
theorem sc__law_odd_row : FnScope N__law_odd_row ["_law_well_here"] (defScope (topS 32)) := ⟨rfl, rfl, rfl, by decide +kernel, rfl, by decide +kernel, by decide +kernel⟩
theorem m__law_needs_read : mSs nm 0 N__law_needs_read ir__law_needs_read (defScope (topS 29)) (defBody (topS 29)) = true := by decide +kernel
theorem sc__law_needs_read : FnScope N__law_needs_read ["_law_step"] (defScope (topS 29)) := ⟨rfl, rfl, rfl, by decide +kernel, rfl, by decide +kernel, by decide +kernel⟩
theorem m__law_needs_input : mSs nm 0 N__law_needs_input ir__law_needs_input (defScope (topS 30)) (defBody (topS 30)) = true := by decide +kernel
theorem sc__law_needs_input : FnScope N__law_needs_input ["_law_step"] (defScope (topS 30)) := ⟨rfl, rfl, rfl, by decide +kernel, rfl, by decide +kernel, by decide +kernel⟩
theorem m_is_word : mSs nm 0 N_is_word ir_is_word (defScope (topS 10)) (defBody (topS 10)) = true := by decide +kernel
theorem sc_is_word : FnScope N_is_word ["value", "words"] (defScope (topS 10)) := ⟨rfl, rfl, rfl, by decide +kernel, rfl, by decide +kernel, by decide +kernel⟩
theorem m_is_words : mSs nm 1 N_is_words ir_is_words (defScope (topS 11)) (defBody (topS 11)) = true := by decide +kernel
theorem sc_is_words : FnScope N_is_words ["value", "words"] (defScope (topS 11)) := ⟨rfl, rfl, rfl, by decide +kernel, rfl, by decide +kernel, by decide +kernel⟩
theorem m_is_statement : mSs nm 2 N_is_statement ir_is_statement (defScope (topS 13)) (defBody (topS 13)) = true := by decide +kernel
theorem sc_is_statement : FnScope N_is_statement ["value"] (defScope (topS 13)) := ⟨rfl, rfl, rfl, by decide +kernel, rfl, by decide +kernel, by decide +kernel⟩
theorem m_check_statement : mSs nm 3 N_check_statement ir_check_statement (defScope (topS 14)) (defBody (topS 14)) = true := by decide +kernel
theorem sc_check_statement : FnScope N_check_statement ["value"] (defScope (topS 14)) := ⟨rfl, rfl, rfl, by decide +kernel, rfl, by decide +kernel, by decide +kernel⟩
theorem m_new_source : mSs nm 0 N_new_source ir_new_source (defScope (topS 19)) (defBody (topS 19)) = true := by decide +kernel
theorem sc_new_source : FnScope N_new_source ["word", "row", "old", "seen"] (defScope (topS 19)) := ⟨rfl, rfl, rfl, by decide +kernel, rfl, by decide +kernel, by decide +kernel⟩
theorem m_row_made : mSs nm 1 N_row_made ir_row_made (defScope (topS 20)) (defBody (topS 20)) = true := by decide +kernel
theorem sc_row_made : FnScope N_row_made ["statement", "value", "seen"] (defScope (topS 20)) := ⟨rfl, rfl, rfl, by decide +kernel, rfl, by decide +kernel, by decide +kernel⟩
theorem m_fails : mSs nm 0 N_fails ir_fails (defScope (topS 18)) (defBody (topS 18)) = true := by decide +kernel
theorem sc_fails : FnScope N_fails ["check", "row", "seen"] (defScope (topS 18)) := ⟨rfl, rfl, rfl, by decide +kernel, rfl, by decide +kernel, by decide +kernel⟩
theorem m_checks_of : mSs nm 0 N_checks_of ir_checks_of (defScope (topS 15)) (defBody (topS 15)) = true := by decide +kernel
theorem sc_checks_of : FnScope N_checks_of ["statement"] (defScope (topS 15)) := ⟨rfl, rfl, rfl, by decide +kernel, rfl, by decide +kernel, by decide +kernel⟩
theorem m_done_to : mSs nm 2 N_done_to ir_done_to (defScope (topS 21)) (defBody (topS 21)) = true := by decide +kernel
theorem sc_done_to : FnScope N_done_to ["statement", "row", "value", "seen"] (defScope (topS 21)) := ⟨rfl, rfl, rfl, by decide +kernel, rfl, by decide +kernel, by decide +kernel⟩
theorem m_needs_input : mSs nm 4 N_needs_input ir_needs_input (defScope (topS 17)) (defBody (topS 17)) = true := by decide +kernel
theorem sc_needs_input : FnScope N_needs_input ["statement"] (defScope (topS 17)) := ⟨rfl, rfl, rfl, by decide +kernel, rfl, by decide +kernel, by decide +kernel⟩
theorem m_needs_read : mSs nm 4 N_needs_read ir_needs_read (defScope (topS 16)) (defBody (topS 16)) = true := by decide +kernel
theorem sc_needs_read : FnScope N_needs_read ["statement"] (defScope (topS 16)) := ⟨rfl, rfl, rfl, by decide +kernel, rfl, by decide +kernel, by decide +kernel⟩
theorem m_is_int : mSs nm 0 N_is_int ir_is_int (defScope (topS 9)) (defBody (topS 9)) = true := by decide +kernel
theorem sc_is_int : FnScope N_is_int ["value"] (defScope (topS 9)) := ⟨rfl, rfl, rfl, by decide +kernel, rfl, by decide +kernel, by decide +kernel⟩
theorem m_is_row : mSs nm 1 N_is_row ir_is_row (defScope (topS 12)) (defBody (topS 12)) = true := by decide +kernel
theorem sc_is_row : FnScope N_is_row ["value"] (defScope (topS 12)) := ⟨rfl, rfl, rfl, by decide +kernel, rfl, by decide +kernel, by decide +kernel⟩
theorem m_applied : mSs nm 5 N_applied ir_applied (defScope (topS 22)) (defBody (topS 22)) = true := by decide +kernel
theorem sc_applied : FnScope N_applied ["statement", "row", "value", "seen"] (defScope (topS 22)) := ⟨rfl, rfl, rfl, by decide +kernel, rfl, by decide +kernel, by decide +kernel⟩
theorem m_law : mSs { nm with lm := true } 6 N_law ir_law (defScope (topS 33)) (defBody (topS 33)) = true := by decide +kernel
theorem sc_law : FnScope N_law ["_law_script"] (defScope (topS 33)) := ⟨rfl, rfl, rfl, by decide +kernel, rfl, by decide +kernel, by decide +kernel⟩
theorem m__law_said : mSs { nm with md := 1 } 0 N__law_said ir__law_said (defScope (topS 31)) (defBody (topS 31)) = true := by decide +kernel
theorem sc__law_said : FnScope N__law_said ["_law_ask"] (defScope (topS 31)) := ⟨rfl, rfl, rfl, by decide +kernel, rfl, by decide +kernel, by decide +kernel⟩
def inC (i j : Nat) : Stmt := match topS i with | .ClassDef _ _ _ b _ _ _ _ _ _ _ => b.getD j (.Pass ⟨0, 0, 0, 0⟩) | s => s
theorem sc_NoRow : FnScope ["self", "part"] ["self", "part"] (defScope (inC 3 0)) := ⟨rfl, rfl, rfl, by decide +kernel, rfl, by decide +kernel, by decide +kernel⟩
end K03

set_option Elab.async false
set_option linter.all false
set_option maxRecDepth 100000
set_option maxHeartbeats 0
namespace K03
open PySem PySem.Spec L2 Fb
def d__law_checks_all : He.DefD := ⟨("_law_checks_all", none), "_law_checks_all", "_law_checks_all", defArgs (topS 27), defBody (topS 27), defScope (topS 27), [], []⟩
def d__law_statements : He.DefD := ⟨("_law_statements", none), "_law_statements", "_law_statements", defArgs (topS 28), defBody (topS 28), defScope (topS 28), [], []⟩
def d__law_well : He.DefD := ⟨("_law_well", none), "_law_well", "_law_well", defArgs (topS 25), defBody (topS 25), defScope (topS 25), [], []⟩
def d__law_draw : He.DefD := ⟨("_law_draw", none), "_law_draw", "_law_draw", defArgs (topS 24), defBody (topS 24), defScope (topS 24), [], []⟩
def d__law_one : He.DefD := ⟨("_law_one", none), "_law_one", "_law_one", defArgs (topS 26), defBody (topS 26), defScope (topS 26), [], []⟩
def d__law_odd_row : He.DefD := ⟨("_law_odd_row", none), "_law_odd_row", "_law_odd_row", defArgs (topS 32), defBody (topS 32), defScope (topS 32), [], []⟩
def d__law_needs_read : He.DefD := ⟨("_law_needs_read", none), "_law_needs_read", "_law_needs_read", defArgs (topS 29), defBody (topS 29), defScope (topS 29), [], []⟩
def d__law_needs_input : He.DefD := ⟨("_law_needs_input", none), "_law_needs_input", "_law_needs_input", defArgs (topS 30), defBody (topS 30), defScope (topS 30), [], []⟩
def d_is_word : He.DefD := ⟨("is_word", none), "is_word", "is_word", defArgs (topS 10), defBody (topS 10), defScope (topS 10), [], []⟩
def d_is_words : He.DefD := ⟨("is_words", none), "is_words", "is_words", defArgs (topS 11), defBody (topS 11), defScope (topS 11), [], []⟩
def d_is_statement : He.DefD := ⟨("is_statement", none), "is_statement", "is_statement", defArgs (topS 13), defBody (topS 13), defScope (topS 13), [], []⟩
def d_check_statement : He.DefD := ⟨("check_statement", none), "check_statement", "check_statement", defArgs (topS 14), defBody (topS 14), defScope (topS 14), [], []⟩
def d_new_source : He.DefD := ⟨("new_source", none), "new_source", "new_source", defArgs (topS 19), defBody (topS 19), defScope (topS 19), [], []⟩
def d_row_made : He.DefD := ⟨("row_made", none), "row_made", "row_made", defArgs (topS 20), defBody (topS 20), defScope (topS 20), [], []⟩
def d_fails : He.DefD := ⟨("fails", none), "fails", "fails", defArgs (topS 18), defBody (topS 18), defScope (topS 18), [], []⟩
def d_checks_of : He.DefD := ⟨("checks_of", none), "checks_of", "checks_of", defArgs (topS 15), defBody (topS 15), defScope (topS 15), [], []⟩
def d_done_to : He.DefD := ⟨("done_to", none), "done_to", "done_to", defArgs (topS 21), defBody (topS 21), defScope (topS 21), [], []⟩
def d_needs_input : He.DefD := ⟨("needs_input", none), "needs_input", "needs_input", defArgs (topS 17), defBody (topS 17), defScope (topS 17), [], []⟩
def d_needs_read : He.DefD := ⟨("needs_read", none), "needs_read", "needs_read", defArgs (topS 16), defBody (topS 16), defScope (topS 16), [], []⟩
def d_is_int : He.DefD := ⟨("is_int", none), "is_int", "is_int", defArgs (topS 9), defBody (topS 9), defScope (topS 9), [], []⟩
def d_is_row : He.DefD := ⟨("is_row", none), "is_row", "is_row", defArgs (topS 12), defBody (topS 12), defScope (topS 12), [], []⟩
def d_applied : He.DefD := ⟨("applied", none), "applied", "applied", defArgs (topS 22), defBody (topS 22), defScope (topS 22), [.non, .non], []⟩
def d_law : He.DefD := ⟨("law", none), "law", "law", defArgs (topS 33), defBody (topS 33), defScope (topS 33), [], []⟩
def d__law_said : He.DefD := ⟨("_law_said", none), "_law_said", "_law_said", defArgs (topS 31), defBody (topS 31), defScope (topS 31), [], []⟩
def d_NoRow : He.DefD := ⟨("NoRow", some "__init__"), "__init__", "NoRow.__init__", defArgs (inC 3 0), defBody (inC 3 0), defScope (inC 3 0), [], []⟩
def fn : List He.DefD := [d__law_checks_all, d__law_statements, d__law_well, d__law_draw, d__law_one, d__law_odd_row, d__law_needs_read, d__law_needs_input, d_is_word, d_is_words, d_is_statement, d_check_statement, d_new_source, d_row_made, d_fails, d_checks_of, d_done_to, d_needs_input, d_needs_read, d_is_int, d_is_row, d_applied, d_law, d__law_said, d_NoRow]
def fa : List He.Fa := (bltNames.map He.Fa.free) ++ [.glo "_law_checks_all", .glo "_law_statements", .glo "_law_well", .glo "_law_draw", .glo "_law_one", .glo "_law_odd_row", .glo "_law_needs_read", .glo "_law_needs_input", .glo "is_word", .glo "is_words", .glo "is_statement", .glo "check_statement", .glo "new_source", .glo "row_made", .glo "fails", .glo "checks_of", .glo "done_to", .glo "needs_input", .glo "needs_read", .glo "is_int", .glo "is_row", .glo "applied", .glo "law", .glo "_law_said", .glo "FillError", .glo "NoStatement", .glo "NoRow", .glo "CHECKS", .glo "NEWS", .glo "OLDS", .glo "READS"]
def tf : List He.Defn := [("law", none)]
def ex (K : PySem.W.Frag) : Bool := noLists K && clsAll K "FillError" clsD subD && He.tupB K "CHECKS" [.str "missing", .str "same old", .str "same new"] && He.tupB K "NEWS" [.str "keep", .str "none", .str "now", .str "read", .str "copy"] && He.tupB K "OLDS" [.str "keep", .str "input", .str "read"] && He.tupB K "READS" [.str "read", .str "copy", .str "same old", .str "same new"]
def nms0 : List PySem.Str := ["FillError", "NoStatement", "NoRow", "OLDS", "NEWS", "CHECKS", "READS", "is_int", "is_word", "is_words", "is_row", "is_statement", "check_statement", "checks_of", "needs_read", "needs_input", "fails", "new_source", "row_made", "done_to", "applied", "_law_draw", "_law_well", "_law_one", "_law_checks_all", "_law_statements", "_law_needs_read", "_law_needs_input", "_law_said", "_law_odd_row"]
def names : List PySem.Str := nms0
abbrev R : PySem.W.OpenRow := PySem.W.OpenLaw.row PySem.Challenge.rw_fillbehind_k03_what_statements_refuse
abbrev hk : PySem.W.Hook := hookY 6 fa fn tf ex
def ob (s : PySem.W.SharedT) : AlY := obsY 6 fa fn tf ex (HandSHeadRun.getT s)
theorem ob_eq (s : PySem.W.SharedT) : ob s = hk.obs s.abs := obsY_eq (HandSHeadRun.getT_eq s)
theorem run (w : World) : HandSHeadRun.RunEq R (PySem.W.view R.prog [33]) hk ob 8000 names w := by
  intro os
  kernel_rfl
end K03

set_option Elab.async false
set_option linter.all false
set_option maxRecDepth 100000
set_option maxHeartbeats 4000000
namespace K03
open PySem Fb
inductive Old | keep | input | read
inductive New | keep | none | now | read | copy
structure Ck where
  m : Bool
  so : Bool
  sn : Bool
inductive St
  | set (o : Old) (n : New) (c : Ck)
  | put (n : New) (c : Ck)
  | ins (b : Bool)
  | del (c : Ck)
abbrev S (x : String) : D := .str (Str.ofString x)
def Old.d : Old → D
  | .keep => S "keep" | .input => S "input" | .read => S "read"
def New.d : New → D
  | .keep => S "keep" | .none => S "none" | .now => S "now" | .read => S "read" | .copy => S "copy"
def Ck.l (c : Ck) : List D := (if c.m then [S "missing"] else []) ++ ((if c.so then [S "same old"] else []) ++ (if c.sn then [S "same new"] else []))
def St.d : St → D
  | .set o n c => .tup [S "set", o.d, n.d, .tup c.l]
  | .put n c => .tup [S "put", n.d, .tup c.l]
  | .ins b => .tup [S "insert", if b then S "now" else S "none"]
  | .del c => .tup [S "delete", .tup c.l]
def St.ok : St → Prop
  | .put .keep _ => False
  | _ => True
abbrev Row := Int × Option Int
def srcD : Option Int → D
  | none => .non
  | some i => .int i
def rowD (r : Row) : D := .tup [.int r.1, srcD r.2]
def orowD : Option Row → D
  | none => .non
  | some r => rowD r
def resD (x : Option Row × Bool) : D := .tup [orowD x.1, .bl x.2]
def St.ck : St → Ck
  | .set _ _ c => c
  | .put _ c => c
  | .ins _ => ⟨false, false, false⟩
  | .del c => c
def Ck.r (c : Ck) : Bool := c.so || c.sn
def St.needsR : St → Bool
  | .set o n c => (match o with | .read => true | _ => false) || (match n with | .read => true | .copy => true | _ => false) || c.r
  | .put _ _ => true
  | .ins _ => false
  | .del c => c.r
def St.needsI : St → Bool
  | .set .input _ _ => true
  | .ins _ => true
  | _ => false
def newSrc (n : New) (src : Option Int) (old : Int) (c : Row) : Option Int := match n with
  | .keep => src
  | .none => none
  | .now => some old
  | .read => some c.1
  | .copy => c.2
def barred (k : Ck) (r c : Row) : Bool := (k.m && r.2.isSome) || ((k.so && decide (r.1 ≠ c.1)) || (k.sn && decide (r.2 ≠ c.2)))
def oldOf (o : Old) (r : Row) (i : Int) (c : Row) : Int := match o with
  | .keep => r.1
  | .input => i
  | .read => c.1
def Ck.none (k : Ck) : Bool := !(k.m || k.so || k.sn)
def doneTo (s : St) (r : Option Row) (i : Int) (c : Row) : Option Row × Bool := match s, r with
  | .ins b, none => (some (i, if b then some i else none), true)
  | .put n k, none => if k.none then (some (c.1, newSrc n none c.1 c), true) else (none, false)
  | .set _ _ _, none => (none, false)
  | .del _, none => (none, false)
  | .ins _, some r => (some r, false)
  | .del k, some r => if barred k r c then (some r, false) else (none, true)
  | .put n k, some r => if barred k r c then (some r, false) else (some (c.1, newSrc n r.2 c.1 c), true)
  | .set o n k, some r => if barred k r c then (some r, false) else (some (oldOf o r i c, newSrc n r.2 (oldOf o r i c) c), true)
def srcP : Option Int → PyData
  | none => .none
  | some i => .int i
def rowP (r : Row) : PyData := .tuple [.int r.1, srcP r.2]
def orowP : Option Row → PyData
  | none => .none
  | some r => rowP r
def resP (x : Option Row × Bool) : PyData := .tuple [orowP x.1, .bool x.2]
theorem src_p (s : Option Int) : toP0 (srcD s) = some (srcP s) := by cases s <;> rfl
theorem row_p (r : Row) : toP0 (rowD r) = some (rowP r) := by simp [rowD, rowP, src_p]
theorem orow_p (r : Option Row) : toP0 (orowD r) = some (orowP r) := by cases r with
  | none => rfl
  | some r => exact row_p r
theorem res_p (x : Option Row × Bool) : toP0 (resD x) = some (resP x) := by simp [resD, resP, orow_p]
theorem toP_of {h : DH} {d : D} {x : PyData} (e : toP0 d = some x) : toP h d = some x := by
  cases d <;> first | exact e | cases e
theorem src_eq (a b : Option Int) : PyData.eqv (srcP a) (srcP b) = decide (a = b) := by
  cases a <;> cases b <;> first | rfl | simp [srcP, Bool.beq_eq_decide_eq] | skip
theorem row_eq (a b : Row) : PyData.eqv (rowP a) (rowP b) = decide (a = b) := by
  obtain ⟨a1, a2⟩ := a
  obtain ⟨b1, b2⟩ := b
  simp [rowP, src_eq, Bool.beq_eq_decide_eq]
theorem orow_eq (a b : Option Row) : PyData.eqv (orowP a) (orowP b) = decide (a = b) := by
  cases a <;> cases b <;> first | rfl | (show PyData.eqv (rowP _) (rowP _) = _; rw [row_eq]; simp) | skip
theorem res_eq (a b : Option Row × Bool) : PyData.eqv (resP a) (resP b) = decide (a = b) := by
  obtain ⟨a1, a2⟩ := a
  obtain ⟨b1, b2⟩ := b
  simp [resP, orow_eq, Bool.beq_eq_decide_eq]
theorem src_sh (a : Option Int) : SeqAt.shaped (srcP a) = true := by cases a <;> simp [srcP]
theorem row_sh (a : Row) : SeqAt.shaped (rowP a) = true := by
  obtain ⟨a1, a2⟩ := a
  cases a2 <;> simp [rowP, srcP, SeqAt.shaped, PyData.canLay0, PyData.canLayAll0, PyData.depth, PyData.depthAll]
theorem orow_sh (a : Option Row) : SeqAt.shaped (orowP a) = true := by
  cases a with
  | none => simp [orowP]
  | some r => exact row_sh r
theorem res_sh (a : Option Row × Bool) : SeqAt.shaped (resP a) = true := by
  obtain ⟨a1, a2⟩ := a
  rcases a1 with _ | ⟨a1, _ | a3⟩ <;> simp [resP, orowP, rowP, srcP, SeqAt.shaped, PyData.canLay0, PyData.canLayAll0, PyData.depth, PyData.depthAll]
end K03

set_option Elab.async false
set_option linter.all false
set_option maxRecDepth 100000
set_option maxHeartbeats 4000000
namespace K03
open PySem Fb
/-! ### what each def does -/
abbrev Spec := List D → DH → QD → XD → Prop
def W (h : DH) (l : Nat) : Prop := ∃ a b c, h l = some (.lst [.int a, .int b, .int c])
/-- all else stays -/
def Fr (h h' : DH) (l : Nat) : Prop := ∀ k, k ≠ l → h k ≠ none → h' k = h k
def isIntD (h : DH) (d : D) : Option Bool := (tyD h d).map fun tx => tx.contains .int && !tx.contains .bool
def isRowD (h : DH) : D → Option Bool
  | .tup [a, b] => (isIntD h a).bind fun ia => if ia = true then (if isNonD b = true then some true else isIntD h b) else some false
  | .tup _ => some false
  | d => (tyD h d).bind fun tx => if tx.contains .tuple = true then none else some false
def St.items : St → List D
  | .set o n c => [S "set", o.d, n.d, .tup c.l]
  | .put n c => [S "put", n.d, .tup c.l]
  | .ins b => [S "insert", if b then S "now" else S "none"]
  | .del c => [S "delete", .tup c.l]
theorem St.d_eq (s : St) : s.d = .tup s.items := by cases s <;> rfl
def StBad (h : DH) (x : D) : Prop := x = .non ∨ x = .tup [] ∨ (∃ ds, x = .lst ds) ∨ (∃ s, x = .str s) ∨ x = .int 5 ∨ (∃ l kvs, x = .ref l ∧ h l = some (.dic kvs)) ∨ ∃ s : St, s.ok ∧ x = .tup (s.items ++ [.tup []])
def OddRow (h : DH) (x : D) : Prop := isRowD h x = some false ∧ isNonD x = false
def ckAll : List Ck := [⟨false, false, false⟩, ⟨true, false, false⟩, ⟨false, true, false⟩, ⟨true, true, false⟩, ⟨false, false, true⟩, ⟨true, false, true⟩, ⟨false, true, true⟩, ⟨true, true, true⟩]
def sp_checks_all : Spec := fun ds h Q _ => ds = [] ∧ Q (.lst (ckAll.map fun c => .tup c.l)) h
def sp_is_word : Spec := fun ds h Q _ => ∃ x ws, ds = [.str (Str.ofString x), .tup ws] ∧ ∃ bs, toP0s ws = some bs ∧ SeqAt.shaped (.tuple bs) = true ∧ Q (.bl (bs.any fun z => PyData.eqv z (.str (Str.ofString x)))) h
def sp_is_words : Spec := fun ds h Q _ => ∃ c : Ck, ds = [.tup c.l, .tup [S "missing", S "same old", S "same new"]] ∧ Q (.bl true) h
def sp_new_source : Spec := fun ds h Q _ => ∃ (n : New) (r : D) (src : Option Int) (old : Int) (x : D) (c : Row), ds = [n.d, r, .int old, x] ∧ (n = .keep → ∃ i, r = rowD (i, src)) ∧ (n = .read ∨ n = .copy → x = rowD c) ∧ Q (srcD (newSrc n src old c)) h
def sp_row_made : Spec := fun ds h Q _ => ∃ (s : St) (v x : D) (i : Int) (c : Row), ds = [s.d, v, x] ∧ s.ok ∧ (s.needsI = true → v = .int i) ∧ (s.needsR = true → x = rowD c) ∧ Q (resD (doneTo s none i c)) h
def sp_fails : Spec := fun ds h Q _ => ∃ (k : String) (r : Row) (x : D), ds = [S k, rowD r, x] ∧ ((k = "missing" ∧ Q (.bl r.2.isSome) h) ∨ ∃ c, x = rowD c ∧ ((k = "same old" ∧ Q (.bl (decide (r.1 ≠ c.1))) h) ∨ (k = "same new" ∧ Q (.bl (decide (r.2 ≠ c.2))) h)))
def sp_checks_of : Spec := fun ds h Q _ => ∃ s : St, ds = [s.d] ∧ Q (.tup s.ck.l) h
def sp_done_to : Spec := fun ds h Q _ => ∃ (s : St) (r : Option Row) (v x : D) (i : Int) (c : Row), ds = [s.d, orowD r, v, x] ∧ s.ok ∧ (s.needsI = true → v = .int i) ∧ (s.needsR = true → x = rowD c) ∧ Q (resD (doneTo s r i c)) h
def sp_statements : Spec := fun ds h Q _ => ds = [] ∧ ∀ ss : List St, ss ≠ [] → ss.length ≤ 1000 → (∀ s ∈ ss, s.ok) → ∀ h', Q (.lst (ss.map St.d)) h'
def sp_well : Spec := fun ds h Q _ => ∃ (ns : List Int) (k : Nat), ds = [.lst (ns.map D.int), .int k] ∧ ns.length ≤ 1000 ∧ k ≤ 1000 ∧ ∀ l h', W h' l → Q (.ref l) h'
def sp_is_statement : Spec := fun ds h Q _ => (∃ s : St, ds = [s.d] ∧ s.ok ∧ Q (.bl true) h) ∨ ∃ x, ds = [x] ∧ StBad h x ∧ Q (.bl false) h
def sp_check_statement : Spec := fun ds h Q E => (∃ s : St, ds = [s.d] ∧ s.ok ∧ Q .non h) ∨ ∃ x, ds = [x] ∧ StBad h x ∧ E 1 [] h
def sp_needs_input : Spec := fun ds h Q _ => ∃ s : St, ds = [s.d] ∧ s.ok ∧ Q (.bl s.needsI) h
def sp_needs_read : Spec := fun ds h Q _ => ∃ s : St, ds = [s.d] ∧ s.ok ∧ Q (.bl s.needsR) h
def sp_is_int : Spec := fun ds h Q _ => ∃ x b, ds = [x] ∧ isIntD h x = some b ∧ Q (.bl b) h
def sp_is_row : Spec := fun ds h Q _ => ∃ x b, ds = [x] ∧ isRowD h x = some b ∧ Q (.bl b) h
def sp_applied : Spec := fun ds h Q E => ∃ x p v s, ds = [x, p, v, s] ∧ ((StBad h x ∧ E 1 [] h) ∨ ∃ st : St, x = st.d ∧ st.ok ∧ ((OddRow h p ∧ E 2 [S "row"] h) ∨ ∃ r, p = orowD r ∧
  ((st.needsI = true ∧ isIntD h v = some false ∧ E 2 [S "value"] h) ∨ ((st.needsI = true → ∃ i, v = .int i) ∧ ((st.needsR = true ∧ isRowD h s = some false ∧ E 2 [S "seen"] h) ∨ ((st.needsR = true → ∃ c, s = rowD c) ∧ ∀ y, Q y h))))))
def sp_draw : Spec := fun ds h Q _ => ∃ (l : Nat) (n : Int), ds = [.ref l, .int n] ∧ 0 < n ∧ n < 1073741824 ∧ W h l ∧ ∀ d h', 0 ≤ d → d < n → Fr h h' l → W h' l → Q (.int d) h'
def sp_one : Spec := fun ds h Q _ => ∃ (l : Nat) (xs : List D), ds = [.ref l, .lst xs] ∧ xs ≠ [] ∧ xs.length ≤ 1000 ∧ W h l ∧ ∀ d h', d ∈ xs → Fr h h' l → W h' l → Q d h'
def sp_odd_row : Spec := fun ds h Q _ => ∃ (l : Nat), ds = [.ref l] ∧ W h l ∧ ∀ d h', OddRow h' d → Fr h h' l → W h' l → Q d h'
def sp_law : Spec := fun ds h Q _ => ∃ ns : List Int, ds = [.lst (ns.map D.int)] ∧ ns.length ≤ 999 ∧ ∀ h', Q (.bl true) h'
def saidE (Q : QD) : XD := fun c fs h => if c = 1 then Q (S "step") h else if c = 2 then ∃ p, fs = [p] ∧ Q p h else c = 0 ∧ Q (S "other") h
def tk_said (B : DH → QD → XD → Prop) (h : DH) (Q : QD) : Prop := B h (fun _ h' => Q (S "none") h') (saidE Q)
def specs : List Spec := [sp_checks_all, sp_statements, sp_well, sp_draw, sp_one, sp_odd_row, sp_needs_read, sp_needs_input, sp_is_word, sp_is_words, sp_is_statement, sp_check_statement, sp_new_source, sp_row_made, sp_fails, sp_checks_of, sp_done_to, sp_needs_input, sp_needs_read, sp_is_int, sp_is_row, sp_applied, sp_law]
def G : Prg := { con := fun k => conD[k]?, dfl := fun k => dflD.getD k [], spec := fun k => specs.getD k (fun _ _ _ _ => False), cfld := fun c => (clsD.getD c ("", [])).2, sub := fun c c' => (subD.getD c []).getD c' false, tk := fun k => if k = 23 then tk_said else fun _ _ _ => False }
def MonoS (s : Spec) : Prop := ∀ args h (Q Q' : QD) (E E' : XD), (∀ d h, Q d h → Q' d h) → (∀ c fs h, E c fs h → E' c fs h) → s args h Q E → s args h Q' E'
theorem mono_sp_checks_all : MonoS sp_checks_all := by
  intro args h Q Q' E E' q e w
  · exact ⟨w.1, q _ _ w.2⟩
theorem mono_sp_statements : MonoS sp_statements := by
  intro args h Q Q' E E' q e w
  · exact ⟨w.1, fun a b c d e => q _ _ (w.2 a b c d e)⟩
theorem mono_sp_well : MonoS sp_well := by
  intro args h Q Q' E E' q e w
  · obtain ⟨a, b, e, c, d, w⟩ := w; exact ⟨a, b, e, c, d, fun x y z => q _ _ (w x y z)⟩
theorem mono_sp_draw : MonoS sp_draw := by
  intro args h Q Q' E E' q e w
  · obtain ⟨a, b, c, d, e2, f, w⟩ := w; exact ⟨a, b, c, d, e2, f, fun x y z t u v => q _ _ (w x y z t u v)⟩
theorem mono_sp_one : MonoS sp_one := by
  intro args h Q Q' E E' q e w
  · obtain ⟨a, b, c, d, e2, f, w⟩ := w; exact ⟨a, b, c, d, e2, f, fun x y z t u => q _ _ (w x y z t u)⟩
theorem mono_sp_odd_row : MonoS sp_odd_row := by
  intro args h Q Q' E E' q e w
  · obtain ⟨a, b, c, w⟩ := w; exact ⟨a, b, c, fun x y z t u => q _ _ (w x y z t u)⟩
theorem mono_sp_needs_read : MonoS sp_needs_read := by
  intro args h Q Q' E E' q e w
  · obtain ⟨a, b, c, w⟩ := w; exact ⟨a, b, c, q _ _ w⟩
theorem mono_sp_needs_input : MonoS sp_needs_input := by
  intro args h Q Q' E E' q e w
  · obtain ⟨a, b, c, w⟩ := w; exact ⟨a, b, c, q _ _ w⟩
theorem mono_sp_is_word : MonoS sp_is_word := by
  intro args h Q Q' E E' q e w
  · obtain ⟨a, b, e, c, d, k, w⟩ := w; exact ⟨a, b, e, c, d, k, q _ _ w⟩
theorem mono_sp_is_words : MonoS sp_is_words := by
  intro args h Q Q' E E' q e w
  · obtain ⟨a, b, w⟩ := w; exact ⟨a, b, q _ _ w⟩
theorem mono_sp_is_statement : MonoS sp_is_statement := by
  intro args h Q Q' E E' q e w
  · exact w.imp (fun ⟨s, a, b, w⟩ => ⟨s, a, b, q _ _ w⟩) fun ⟨s, a, b, w⟩ => ⟨s, a, b, q _ _ w⟩
theorem mono_sp_check_statement : MonoS sp_check_statement := by
  intro args h Q Q' E E' q e w
  · exact w.imp (fun ⟨s, a, b, w⟩ => ⟨s, a, b, q _ _ w⟩) fun ⟨s, a, b, w⟩ => ⟨s, a, b, e _ _ _ w⟩
theorem mono_sp_new_source : MonoS sp_new_source := by
  intro args h Q Q' E E' q e w
  · obtain ⟨a, b, c, d, e, f, g, i, j, w⟩ := w; exact ⟨a, b, c, d, e, f, g, i, j, q _ _ w⟩
theorem mono_sp_row_made : MonoS sp_row_made := by
  intro args h Q Q' E E' q e w
  · obtain ⟨a, b, c, d, e, f, g, i, j, w⟩ := w; exact ⟨a, b, c, d, e, f, g, i, j, q _ _ w⟩
theorem mono_sp_fails : MonoS sp_fails := by
  intro args h Q Q' E E' q e w
  · obtain ⟨a, b, c, d, w⟩ := w
    refine ⟨a, b, c, d, ?_⟩
    rcases w with ⟨e, w⟩ | ⟨e, f, ⟨g, w⟩ | ⟨g, w⟩⟩
    · exact .inl ⟨e, q _ _ w⟩
    · exact .inr ⟨e, f, .inl ⟨g, q _ _ w⟩⟩
    · exact .inr ⟨e, f, .inr ⟨g, q _ _ w⟩⟩
theorem mono_sp_checks_of : MonoS sp_checks_of := by
  intro args h Q Q' E E' q e w
  · obtain ⟨a, b, w⟩ := w; exact ⟨a, b, q _ _ w⟩
theorem mono_sp_done_to : MonoS sp_done_to := by
  intro args h Q Q' E E' q e w
  · obtain ⟨a, b, c, d, e, f, g, i, j, k, w⟩ := w; exact ⟨a, b, c, d, e, f, g, i, j, k, q _ _ w⟩
theorem mono_sp_is_int : MonoS sp_is_int := by
  intro args h Q Q' E E' q e w
  · obtain ⟨a, b, c, d, w⟩ := w; exact ⟨a, b, c, d, q _ _ w⟩
theorem mono_sp_is_row : MonoS sp_is_row := by
  intro args h Q Q' E E' q e w
  · obtain ⟨a, b, c, d, w⟩ := w; exact ⟨a, b, c, d, q _ _ w⟩
theorem mono_sp_applied : MonoS sp_applied := by
  intro args h Q Q' E E' q e w
  · obtain ⟨x, p, v, s, e0, w⟩ := w
    refine ⟨x, p, v, s, e0, ?_⟩
    rcases w with ⟨a, w⟩ | ⟨st, b1, b2, w⟩
    · exact .inl ⟨a, e _ _ _ w⟩
    · refine .inr ⟨st, b1, b2, ?_⟩
      rcases w with ⟨a, w⟩ | ⟨r, c1, w⟩
      · exact .inl ⟨a, e _ _ _ w⟩
      · refine .inr ⟨r, c1, ?_⟩
        rcases w with ⟨a, a2, w⟩ | ⟨d1, w⟩
        · exact .inl ⟨a, a2, e _ _ _ w⟩
        · refine .inr ⟨d1, ?_⟩
          rcases w with ⟨a, a2, w⟩ | ⟨d2, w⟩
          · exact .inl ⟨a, a2, e _ _ _ w⟩
          · exact .inr ⟨d2, fun y => q _ _ (w y)⟩
theorem mono_sp_law : MonoS sp_law := by
  intro args h Q Q' E E' q e w
  · obtain ⟨a, b, c, w⟩ := w; exact ⟨a, b, c, fun x => q _ _ (w x)⟩
theorem mono_specs : ∀ s ∈ specs, MonoS s := by
  intro s hs
  simp only [specs, List.mem_cons, List.not_mem_nil, or_false] at hs
  rcases hs with rfl | rfl | rfl | rfl | rfl | rfl | rfl | rfl | rfl | rfl | rfl | rfl | rfl | rfl | rfl | rfl | rfl | rfl | rfl | rfl | rfl | rfl | rfl
  · exact mono_sp_checks_all
  · exact mono_sp_statements
  · exact mono_sp_well
  · exact mono_sp_draw
  · exact mono_sp_one
  · exact mono_sp_odd_row
  · exact mono_sp_needs_read
  · exact mono_sp_needs_input
  · exact mono_sp_is_word
  · exact mono_sp_is_words
  · exact mono_sp_is_statement
  · exact mono_sp_check_statement
  · exact mono_sp_new_source
  · exact mono_sp_row_made
  · exact mono_sp_fails
  · exact mono_sp_checks_of
  · exact mono_sp_done_to
  · exact mono_sp_needs_input
  · exact mono_sp_needs_read
  · exact mono_sp_is_int
  · exact mono_sp_is_row
  · exact mono_sp_applied
  · exact mono_sp_law
theorem mono_G : Mono G := by
  refine ⟨fun k => ?_, fun _ _ _ _ _ _ _ _ _ _ _ _ w => w, fun k B h Q Q' mB q w => ?_⟩
  · have : ∀ k, MonoS (specs.getD k (fun _ _ _ _ => False)) := fun k => by
      by_cases hk : k < specs.length
      · rw [List.getD_eq_getElem?_getD, List.getElem?_eq_getElem hk]
        exact mono_specs _ (List.getElem_mem hk)
      · rw [List.getD_eq_getElem?_getD, List.getElem?_eq_none (by omega)]
        exact fun _ _ _ _ _ _ _ _ w => w
    exact this k
  · have w : (if k = 23 then tk_said else fun _ _ _ => False) B h Q := w
    show (if k = 23 then tk_said else fun _ _ _ => False) B h Q'
    split at w
    · rename_i e
      rw [if_pos e]
      refine mB _ _ _ _ _ (fun _ _ z => q _ _ z) (fun c fs h z => ?_) w
      unfold saidE at z ⊢
      split at z
      · rename_i e; rw [if_pos e]; exact q _ _ z
      · rename_i e
        rw [if_neg e]
        split at z
        · rename_i e; rw [if_pos e]; obtain ⟨p, z1, z2⟩ := z; exact ⟨p, z1, q _ _ z2⟩
        · rename_i e; rw [if_neg e]; exact ⟨z.1, q _ _ z.2⟩
    · exact w.elim
end K03

set_option Elab.async false
set_option linter.all false
set_option maxRecDepth 100000
set_option maxHeartbeats 4000000
namespace K03
open PySem Fb
@[simp] theorem spec_0 : G.spec 0 = sp_checks_all := rfl
@[simp] theorem dfl_0 : G.dfl 0 = [] := rfl
@[simp] theorem spec_1 : G.spec 1 = sp_statements := rfl
@[simp] theorem dfl_1 : G.dfl 1 = [] := rfl
@[simp] theorem spec_2 : G.spec 2 = sp_well := rfl
@[simp] theorem dfl_2 : G.dfl 2 = [none, none] := rfl
@[simp] theorem spec_3 : G.spec 3 = sp_draw := rfl
@[simp] theorem dfl_3 : G.dfl 3 = [none, none] := rfl
@[simp] theorem spec_4 : G.spec 4 = sp_one := rfl
@[simp] theorem dfl_4 : G.dfl 4 = [none, none] := rfl
@[simp] theorem spec_5 : G.spec 5 = sp_odd_row := rfl
@[simp] theorem dfl_5 : G.dfl 5 = [none] := rfl
@[simp] theorem spec_6 : G.spec 6 = sp_needs_read := rfl
@[simp] theorem dfl_6 : G.dfl 6 = [none] := rfl
@[simp] theorem spec_7 : G.spec 7 = sp_needs_input := rfl
@[simp] theorem dfl_7 : G.dfl 7 = [none] := rfl
@[simp] theorem spec_8 : G.spec 8 = sp_is_word := rfl
@[simp] theorem dfl_8 : G.dfl 8 = [none, none] := rfl
@[simp] theorem spec_9 : G.spec 9 = sp_is_words := rfl
@[simp] theorem dfl_9 : G.dfl 9 = [none, none] := rfl
@[simp] theorem spec_10 : G.spec 10 = sp_is_statement := rfl
@[simp] theorem dfl_10 : G.dfl 10 = [none] := rfl
@[simp] theorem spec_11 : G.spec 11 = sp_check_statement := rfl
@[simp] theorem dfl_11 : G.dfl 11 = [none] := rfl
@[simp] theorem spec_12 : G.spec 12 = sp_new_source := rfl
@[simp] theorem dfl_12 : G.dfl 12 = [none, none, none, none] := rfl
@[simp] theorem spec_13 : G.spec 13 = sp_row_made := rfl
@[simp] theorem dfl_13 : G.dfl 13 = [none, none, none] := rfl
@[simp] theorem spec_14 : G.spec 14 = sp_fails := rfl
@[simp] theorem dfl_14 : G.dfl 14 = [none, none, none] := rfl
@[simp] theorem spec_15 : G.spec 15 = sp_checks_of := rfl
@[simp] theorem dfl_15 : G.dfl 15 = [none] := rfl
@[simp] theorem spec_16 : G.spec 16 = sp_done_to := rfl
@[simp] theorem dfl_16 : G.dfl 16 = [none, none, none, none] := rfl
@[simp] theorem spec_17 : G.spec 17 = sp_needs_input := rfl
@[simp] theorem dfl_17 : G.dfl 17 = [none] := rfl
@[simp] theorem spec_18 : G.spec 18 = sp_needs_read := rfl
@[simp] theorem dfl_18 : G.dfl 18 = [none] := rfl
@[simp] theorem spec_19 : G.spec 19 = sp_is_int := rfl
@[simp] theorem dfl_19 : G.dfl 19 = [none] := rfl
@[simp] theorem spec_20 : G.spec 20 = sp_is_row := rfl
@[simp] theorem dfl_20 : G.dfl 20 = [none] := rfl
@[simp] theorem spec_21 : G.spec 21 = sp_applied := rfl
@[simp] theorem dfl_21 : G.dfl 21 = [none, none, some .non, some .non] := rfl
@[simp] theorem spec_22 : G.spec 22 = sp_law := rfl
@[simp] theorem dfl_22 : G.dfl 22 = [none] := rfl
@[simp] theorem con_0 : G.con 0 = some (.tup (["missing", "same old", "same new"].map S)) := rfl
@[simp] theorem con_1 : G.con 1 = some (.tup (["keep", "none", "now", "read", "copy"].map S)) := rfl
@[simp] theorem con_2 : G.con 2 = some (.tup (["keep", "input", "read"].map S)) := rfl
@[simp] theorem con_3 : G.con 3 = some (.tup (["read", "copy", "same old", "same new"].map S)) := rfl
@[simp] theorem tk_23 : G.tk 23 = tk_said := rfl
@[simp] theorem start_0 (n : Nat) : startD n [] = List.replicate n none := by simp [and_assoc, big, startD]
@[simp] theorem bind_0 : bindD [] [] [] [] = some [] := rfl
@[simp] theorem bind_1 (a : D) : bindD [none] [a] [] [] = some [a] := rfl
@[simp] theorem bind_2 (a b : D) : bindD [none, none] [a, b] [] [] = some [a, b] := rfl
@[simp] theorem bind_3 (a b c : D) : bindD [none, none, none] [a, b, c] [] [] = some [a, b, c] := rfl
@[simp] theorem bind_4 (a b c d : D) : bindD [none, none, none, none] [a, b, c, d] [] [] = some [a, b, c, d] := rfl
@[simp] theorem bind_a1 (a b c d : D) : bindD [none, none, some .non, some .non] [a, b, c, d] [] [] = some [a, b, c, d] := rfl
@[simp] theorem at_0 (x : D) (xs : List D) : L2.atI (x :: xs) 0 = some x := by
  unfold L2.atI L2.ixN
  rw [if_pos (by decide), if_pos (by simp only [List.length_cons]; omega)]
  rfl
@[simp] theorem at_1 (x y : D) (xs : List D) : L2.atI (x :: y :: xs) 1 = some y := by
  unfold L2.atI L2.ixN
  rw [if_pos (by decide), if_pos (by simp only [List.length_cons]; omega)]
  rfl
@[simp] theorem at_2 (x y z : D) (xs : List D) : L2.atI (x :: y :: z :: xs) 2 = some z := by
  unfold L2.atI L2.ixN
  rw [if_pos (by decide), if_pos (by simp only [List.length_cons]; omega)]
  rfl
@[simp] theorem at_m2 (x y : D) : L2.atI [x, y] (-1) = some y := rfl
@[simp] theorem at_m3 (x y z : D) : L2.atI [x, y, z] (-1) = some z := rfl
@[simp] theorem at_m4 (x y z t : D) : L2.atI [x, y, z, t] (-1) = some t := rfl
@[simp] theorem sh_tnil : SeqAt.shaped (.tuple []) = true := rfl
@[simp] theorem sh_lnil : SeqAt.shaped (.list []) = true := rfl
@[simp] theorem src_none : srcD none = .non := rfl
@[simp] theorem src_some (i : Int) : srcD (some i) = .int i := rfl
theorem meets_is_word : Meets G 8 2 ir_is_word := by
  rintro _ h Q E - ⟨x, ws, rfl, bs, e1, e2, q⟩
  unfold ir_is_word
  simp at e2
  simp [startD, endOf, e1, e2.1, e2.2]
  simpa using q
theorem meets_is_words : Meets G 9 4 ir_is_words := by
  rintro _ h Q E - ⟨c, rfl, q⟩
  unfold ir_is_words
  simp only [wpSs, wpS, wpE, wpL, wpAnd, wpOr, wpI, wpIfs]
  rcases c with ⟨_ | _, _ | _, _ | _⟩ <;> simp [and_assoc, big, startD, Ck.l, endOf, sp_is_word, SeqAt.shaped, PyData.canLay0, PyData.canLayAll0, PyData.depth, PyData.depthAll, q]
theorem meets_new_source : Meets G 12 4 ir_new_source := by
  rintro _ h Q E - ⟨n, r, src, old, x, c, rfl, h1, h2, q⟩
  unfold ir_new_source
  simp only [wpSs, wpS, wpE, wpL, wpAnd, wpOr, wpI, wpIfs]
  cases n
  · obtain ⟨i, rfl⟩ := h1 rfl
    simpa [and_assoc, big, startD, endOf, New.d, rowD, newSrc] using q
  · simpa [and_assoc, big, startD, endOf, New.d, rowD, newSrc] using q
  · simpa [and_assoc, big, startD, endOf, New.d, rowD, newSrc] using q
  · rw [h2 (.inl rfl)]
    simpa [and_assoc, big, startD, endOf, New.d, rowD, newSrc] using q
  · rw [h2 (.inr rfl)]
    simpa [and_assoc, big, startD, endOf, New.d, rowD, newSrc] using q
theorem meets_fails : Meets G 14 3 ir_fails := by
  rintro _ h Q E - ⟨k, r, x, rfl, q⟩
  unfold ir_fails
  simp only [wpSs, wpS, wpE, wpL, wpAnd, wpOr, wpI, wpIfs]
  rcases q with ⟨rfl, q⟩ | ⟨c, rfl, ⟨rfl, q⟩ | ⟨rfl, q⟩⟩
  · rcases r with ⟨a, _ | b⟩ <;> simpa [and_assoc, big, startD, endOf, rowD, srcD] using q
  · simpa [and_assoc, big, startD, endOf, rowD, Bool.beq_eq_decide_eq] using q
  · obtain ⟨a, b⟩ := r
    obtain ⟨c, d⟩ := c
    simpa [and_assoc, big, startD, endOf, rowD, toP_of (src_p _), src_sh, src_eq] using q
theorem meets_checks_of : Meets G 15 1 ir_checks_of := by
  rintro _ h Q E - ⟨s, rfl, q⟩
  unfold ir_checks_of
  simp only [wpSs, wpS, wpE, wpL, wpAnd, wpOr, wpI, wpIfs]
  cases s with
  | ins b => simpa [and_assoc, big, startD, endOf, St.d, St.ck, Ck.l] using q
  | _ => simpa [and_assoc, big, startD, endOf, St.d, St.ck] using q
theorem meets_checks_all : Meets G 0 3 ir__law_checks_all := by
  rintro _ h Q E - ⟨rfl, q⟩
  unfold ir__law_checks_all
  simp only [wpSs, wpS, wpE, wpL, wpAnd, wpOr, wpI, wpIfs]
  simpa [and_assoc, big, startD, endOf, Ck.l, ckAll] using q
def Ck.p (c : Ck) : List PyData := (if c.m then [.str (Str.ofString "missing")] else []) ++ ((if c.so then [.str (Str.ofString "same old")] else []) ++ (if c.sn then [.str (Str.ofString "same new")] else []))
@[simp] theorem ck_p (c : Ck) : toP0s c.l = some c.p := by
  rcases c with ⟨_ | _, _ | _, _ | _⟩ <;> rfl
@[simp] theorem ck_lay (c : Ck) : PyData.canLayAll0 c.p = true := by
  rcases c with ⟨_ | _, _ | _, _ | _⟩ <;> simp [Ck.p, PyData.canLayAll0, PyData.canLay0]
@[simp] theorem ck_dep (c : Ck) : PyData.depthAll c.p ≤ 1 := by
  rcases c with ⟨_ | _, _ | _, _ | _⟩ <;> simp [Ck.p, PyData.depthAll, PyData.depth]
theorem ck_sh (c : Ck) : SeqAt.shaped (.tuple c.p) = true := by
  have := ck_dep c
  simp [SeqAt.shaped, PyData.canLay0, PyData.depth]; omega
theorem ck_nil (c : Ck) : PyData.eqvAll c.p [] = c.none := by
  rcases c with ⟨_ | _, _ | _, _ | _⟩ <;> rfl
@[simp] theorem ck_len (c : Ck) : c.l.length ≤ 16777216 := by
  rcases c with ⟨_ | _, _ | _, _ | _⟩ <;> simp [Ck.l]
theorem ck_dep63 (c : Ck) : PyData.depthAll c.p ≤ 62 := by have := ck_dep c; omega
@[simp] theorem cut_2 (a b : D) : cutD [a, b] (some 1) none = [b] := rfl
@[simp] theorem cut_3 (a b c : D) : cutD [a, b, c] (some 1) none = [b, c] := rfl
@[simp] theorem cut_4 (a b c d : D) : cutD [a, b, c, d] (some 1) none = [b, c, d] := rfl
@[simp] theorem cut_5 (a b c d e : D) : cutD [a, b, c, d, e] (some 1) none = [b, c, d, e] := rfl
@[simp] theorem cut_5m (a b c d e : D) : cutD [a, b, c, d, e] (some 1) (some 3) = [b, c] := rfl
@[simp] theorem cut_2m (a b : D) : cutD [a, b] (some 1) (some (-1)) = [] := rfl
@[simp] theorem cut_3m (a b c : D) : cutD [a, b, c] (some 1) (some (-1)) = [b] := rfl
@[simp] theorem cut_4m (a b c d : D) : cutD [a, b, c, d] (some 1) (some (-1)) = [b, c] := rfl
@[simp] theorem cut_2h (a b : D) : cutD [a, b] none (some 2) = [a, b] := rfl
@[simp] theorem cut_3h (a b c : D) : cutD [a, b, c] none (some 2) = [a, b] := rfl
@[simp] theorem cut_4h (a b c d : D) : cutD [a, b, c, d] none (some 2) = [a, b] := rfl
@[simp] theorem ck_63 (c : Ck) (k : Nat) : (PyData.depthAll c.p ≤ k + 1) = True := by have := ck_dep c; simp; omega
@[simp] theorem bind_a5 (a b : D) : bindD [none, none, some .non, some .non] [a, b] [] [] = some [a, b, .non, .non] := rfl
end K03

set_option Elab.async false
set_option linter.all false
set_option maxRecDepth 100000
set_option maxHeartbeats 4000000
namespace K03
open PySem Fb
theorem meets_needs_input2 : Meets G 7 1 ir__law_needs_input := by
  rintro _ h Q E - ⟨s, rfl, ok, q⟩
  unfold ir__law_needs_input
  rcases s with ⟨o, n, c⟩ | ⟨n, c⟩ | ⟨_ | _⟩ | ⟨c⟩
  · cases o <;> simpa [St.d, Old.d, St.needsI, startD, endOf] using q
  · cases n with
    | keep => exact False.elim ok
    | _ => simpa [St.d, New.d, St.needsI, startD, endOf] using q
  · simpa [St.d, Old.d, St.needsI, startD, endOf] using q
  · simpa [St.d, Old.d, St.needsI, startD, endOf] using q
  · simpa [St.d, Old.d, St.needsI, startD, endOf] using q
theorem meets_needs_read2 : Meets G 6 3 ir__law_needs_read := by
  rintro _ h Q E - ⟨s, rfl, ok, q⟩
  unfold ir__law_needs_read
  rcases s with ⟨o, n, c⟩ | ⟨n, c⟩ | ⟨_ | _⟩ | ⟨c⟩
  · rcases c with ⟨_ | _, _ | _, _ | _⟩ <;> cases o <;> cases n <;> simpa [startD, endOf, St.d, Old.d, New.d, St.needsR, St.ck, Ck.l, Ck.r] using q
  · rcases c with ⟨_ | _, _ | _, _ | _⟩ <;> cases n <;> simpa [startD, endOf, St.d, Old.d, New.d, St.needsR, St.ck, Ck.l, Ck.r] using q
  · simpa [St.d, startD, endOf, St.needsR] using q
  · simpa [St.d, startD, endOf, St.needsR] using q
  · rcases c with ⟨_ | _, _ | _, _ | _⟩ <;> simpa [startD, endOf, St.d, Old.d, New.d, St.needsR, St.ck, Ck.l, Ck.r] using q
@[simp] theorem idx_row0 (h : DH) (r : Row) : idxD h (rowD r) (.int 0) = some (.int r.1) := by simp [rowD]
@[simp] theorem idx_row1 (h : DH) (r : Row) : idxD h (rowD r) (.int 1) = some (srcD r.2) := by simp [rowD]
@[simp] theorem isn_row (r : Row) : isNonD (rowD r) = false := rfl
theorem meets_row_made : Meets G 13 3 ir_row_made := by
  rintro _ h Q E - ⟨s, v, x, i, c, rfl, ok, hi, hr, q⟩
  unfold ir_row_made
  rcases s with ⟨o, n, k⟩ | ⟨n, k⟩ | ⟨_ | _⟩ | ⟨k⟩
  · simpa [startD, endOf, St.d, doneTo, resD, orowD] using q
  · rw [hr rfl]
    simp [startD, endOf, St.d, ck_nil]
    cases hk : k.none
    · simpa [doneTo, hk, resD, orowD] using q
    · simp
      refine ⟨n, _, none, _, _, c, rfl, ?_, fun _ => rfl, ?_⟩
      · rintro rfl; exact False.elim ok
      · simpa [doneTo, hk, resD, orowD, rowD] using q
  · rw [hi rfl]
    simpa [startD, endOf, St.d, doneTo, resD, orowD, rowD] using q
  · rw [hi rfl]
    simpa [startD, endOf, St.d, doneTo, resD, orowD, rowD] using q
  · simpa [startD, endOf, St.d, doneTo, resD, orowD] using q
theorem ck_bars (k : Ck) (r : Row) (x : D) (c : Row) (hx : k.r = true → x = rowD c) (h : DH) (R : List D → DH → Prop)
    (step : D → DH → (Option D → DH → Prop) → Prop) (keep : DH → Prop) (hk : keep h) (hs : ∀ s K, step (S s) h K = sp_fails [S s, rowD r, x] h (fun y h4 => K (some y) h4) (fun _ _ _ => False))
    (w : ∀ bs : List Bool, bs.any id = barred k r c → R (bs.map D.bl) h) : compL step keep k.l h R := by
  have f1 : ∀ (Q : QD) (E : XD), Q (.bl r.2.isSome) h → sp_fails [S "missing", rowD r, x] h Q E := fun Q E q => ⟨"missing", r, x, rfl, .inl ⟨rfl, q⟩⟩
  have f2 : ∀ (Q : QD) (E : XD), k.r = true → Q (.bl (decide (r.1 ≠ c.1))) h → sp_fails [S "same old", rowD r, x] h Q E := fun Q E z q => ⟨"same old", r, x, rfl, .inr ⟨c, hx z, .inl ⟨rfl, q⟩⟩⟩
  have f3 : ∀ (Q : QD) (E : XD), k.r = true → Q (.bl (decide (r.2 ≠ c.2))) h → sp_fails [S "same new", rowD r, x] h Q E := fun Q E z q => ⟨"same new", r, x, rfl, .inr ⟨c, hx z, .inr ⟨rfl, q⟩⟩⟩
  rcases k with ⟨_ | _, _ | _, _ | _⟩
  · exact ⟨hk, w [] rfl⟩
  · refine ⟨hk, (hs _ _).mpr (f3 _ _ rfl ⟨hk, w [_] ?_⟩)⟩
    simp [barred]
  · refine ⟨hk, (hs _ _).mpr (f2 _ _ rfl ⟨hk, w [_] ?_⟩)⟩
    simp [barred]
  · refine ⟨hk, (hs _ _).mpr (f2 _ _ rfl ⟨hk, (hs _ _).mpr (f3 _ _ rfl ⟨hk, w [_, _] ?_⟩)⟩)⟩
    simp [barred]
  · refine ⟨hk, (hs _ _).mpr (f1 _ _ ⟨hk, w [_] ?_⟩)⟩
    simp [barred]
  · refine ⟨hk, (hs _ _).mpr (f1 _ _ ⟨hk, (hs _ _).mpr (f3 _ _ rfl ⟨hk, w [_, _] ?_⟩)⟩)⟩
    simp [barred]
  · refine ⟨hk, (hs _ _).mpr (f1 _ _ ⟨hk, (hs _ _).mpr (f2 _ _ rfl ⟨hk, w [_, _] ?_⟩)⟩)⟩
    simp [barred]
  · refine ⟨hk, (hs _ _).mpr (f1 _ _ ⟨hk, (hs _ _).mpr (f2 _ _ rfl ⟨hk, (hs _ _).mpr (f3 _ _ rfl ⟨hk, w [_, _, _] ?_⟩)⟩)⟩)⟩
    simp [barred]
@[simp] theorem bools_map (bs : List Bool) : bools (bs.map D.bl) = some bs := by
  induction bs with
  | nil => rfl
  | cons b r ih => simp [ih]
theorem meets_done_to : Meets G 16 6 ir_done_to := by
  rintro _ h Q E - ⟨s, r, v, x, i, c, rfl, ok, hi, hr, q⟩
  unfold ir_done_to
  cases r with
  | none =>
    simp [startD, endOf, orowD]
    exact ⟨s, v, x, i, c, rfl, ok, hi, hr, q⟩
  | some r =>
    have hm : ∀ (k : Ck) (bs : List Bool), bs.any id = barred k r c → ((true ∈ bs) = (barred k r c = true)) := fun k bs e => by rw [← e]; simp
    rcases s with ⟨o, n, k⟩ | ⟨n, k⟩ | b | k
    · simp [startD, endOf, orowD, St.d]
      refine ⟨.set o n k, rfl, ?_⟩
      simp [St.ck]
      refine ck_bars k r x c (fun z => hr (by simp [St.needsR, z])) _ _ _ _ trivial (fun s K => ?_) fun bs hb => ?_
      · simp [sp_fails]
      · simp [hm k bs hb]
        split
        · rename_i z
          simpa [doneTo, z, resD, orowD] using q
        · rename_i z
          have ns : ∀ (old : Int) (Q : QD) (E : XD), Q (srcD (newSrc n r.2 old c)) h → sp_new_source [n.d, rowD r, .int old, x] h Q E := fun old Q E q => ⟨n, _, r.2, old, x, c, rfl, fun _ => ⟨r.1, rfl⟩, fun z => hr (by rcases z with rfl | rfl <;> simp [St.needsR]), q⟩
          cases o with
          | keep =>
            simp [Old.d]
            exact ns _ _ _ (by simpa [doneTo, z, resD, orowD, rowD, oldOf] using q)
          | input =>
            rw [hi rfl]
            simp [Old.d]
            exact ns _ _ _ (by simpa [doneTo, z, resD, orowD, rowD, oldOf] using q)
          | read =>
            simp [Old.d]
            rw [hr rfl] at ns ⊢
            simp
            exact ns _ _ _ (by simpa [doneTo, z, resD, orowD, rowD, oldOf] using q)
    · rw [hr rfl]
      simp [startD, endOf, orowD, St.d]
      refine ⟨.put n k, rfl, ?_⟩
      simp [St.ck]
      refine ck_bars k r _ c (fun z => rfl) _ _ _ _ trivial (fun s K => ?_) fun bs hb => ?_
      · simp [sp_fails]
      · simp [hm k bs hb]
        split
        · rename_i z
          simpa [doneTo, z, resD, orowD] using q
        · rename_i z
          exact ⟨n, _, r.2, c.1, _, c, rfl, fun _ => ⟨r.1, rfl⟩, fun _ => rfl, by simpa [doneTo, z, resD, orowD, rowD, oldOf] using q⟩
    · simpa [startD, endOf, orowD, St.d, doneTo, resD] using q
    · simp [startD, endOf, orowD, St.d]
      refine ⟨.del k, rfl, ?_⟩
      simp [St.ck]
      refine ck_bars k r x c (fun z => hr (by simp [St.needsR, z])) _ _ _ _ trivial (fun s K => ?_) fun bs hb => ?_
      · simp [sp_fails]
      · simp [hm k bs hb]
        split
        · rename_i z
          simpa [doneTo, z, resD, orowD] using q
        · rename_i z
          simpa [doneTo, z, resD, orowD] using q
end K03

set_option Elab.async false
set_option linter.all false
set_option maxRecDepth 100000
set_option maxHeartbeats 4000000
namespace K03
open PySem Fb

theorem meets_is_statement : Meets G 10 3 ir_is_statement := by
  rintro _ h Q E - (⟨s, rfl, ok, q⟩ | ⟨x, rfl, hx, q⟩)
  · unfold ir_is_statement
    rcases s with ⟨o, n, c⟩ | ⟨n, c⟩ | ⟨_ | _⟩ | ⟨c⟩
    · cases o <;> cases n <;> simp [startD, endOf, St.d, Old.d, New.d, sp_is_word, sp_is_words, and_assoc, q] <;> exact ⟨c, rfl⟩
    · cases n with
      | keep => exact False.elim ok
      | _ => simp [startD, endOf, St.d, Old.d, New.d, sp_is_word, sp_is_words, and_assoc, q] <;> exact ⟨c, rfl⟩
    · simp [startD, endOf, St.d, Old.d, New.d, sp_is_word, sp_is_words, and_assoc, q]
    · simp [startD, endOf, St.d, Old.d, New.d, sp_is_word, sp_is_words, and_assoc, q]
    · simp [startD, endOf, St.d, Old.d, New.d, sp_is_word, sp_is_words, and_assoc, q] <;> exact ⟨c, rfl⟩
  · unfold ir_is_statement
    rcases hx with rfl | rfl | ⟨ds, rfl⟩ | ⟨s, rfl⟩ | rfl | ⟨l, kvs, rfl, hl⟩ | ⟨s, ok, rfl⟩
    · simp [startD, endOf, q]
    · simp [startD, endOf, q]
    · simp [startD, endOf, q]
    · simp [startD, endOf, q]
    · simp [startD, endOf, q]
    · simp [startD, endOf, q, hl, tyD]
    · rcases s with ⟨o, n, c⟩ | ⟨n, c⟩ | ⟨_ | _⟩ | ⟨c⟩
      · cases o <;> cases n <;> simp [startD, endOf, St.items, Old.d, New.d, q]
      · cases n with
        | keep => exact False.elim ok
        | _ => simp [startD, endOf, St.items, Old.d, New.d, q]
      · simp [startD, endOf, St.items, q]
      · simp [startD, endOf, St.items, q]
      · simp [startD, endOf, St.items, q]
theorem meets_check_statement : Meets G 11 1 ir_check_statement := by
  rintro _ h Q E - (⟨s, rfl, ok, q⟩ | ⟨x, rfl, hx, q⟩)
  · unfold ir_check_statement
    simp [startD, endOf]
    exact .inl ⟨s, rfl, ok, by simpa using q⟩
  · unfold ir_check_statement
    simp [startD, endOf]
    refine .inr ⟨x, rfl, hx, ?_⟩
    have e : G.cfld 1 = [] := rfl
    simpa [e] using q
theorem meets_needs_input : Meets G 17 1 ir_needs_input := by
  rintro _ h Q E - ⟨s, rfl, ok, q⟩
  unfold ir_needs_input
  simp [startD, endOf]
  refine .inl ⟨s, rfl, ok, ?_⟩
  rcases s with ⟨o, n, c⟩ | ⟨n, c⟩ | ⟨_ | _⟩ | ⟨c⟩
  · cases o <;> simpa [St.d, Old.d, St.needsI] using q
  all_goals simpa [St.d, Old.d, St.needsI] using q
theorem meets_needs_read : Meets G 18 3 ir_needs_read := by
  rintro _ h Q E - ⟨s, rfl, ok, q⟩
  unfold ir_needs_read
  simp [startD, endOf, sp_checks_of]
  refine .inl ⟨s, rfl, ok, ?_⟩
  rcases s with ⟨o, n, c⟩ | ⟨n, c⟩ | ⟨_ | _⟩ | ⟨c⟩
  · simp [St.d]
    refine ⟨.set o n c, rfl, ?_⟩
    rcases c with ⟨_ | _, _ | _, _ | _⟩ <;> cases o <;> cases n <;> simpa [St.d, Old.d, New.d, St.needsR, St.ck, Ck.l, Ck.r] using q
  · simpa [St.d, Old.d, St.needsR] using q
  · simp [St.d]
    exact ⟨.ins false, rfl, by simpa [St.d, Old.d, New.d, St.needsR, St.ck, Ck.l, Ck.r] using q⟩
  · simp [St.d]
    exact ⟨.ins true, rfl, by simpa [St.d, Old.d, New.d, St.needsR, St.ck, Ck.l, Ck.r] using q⟩
  · simp [St.d]
    refine ⟨.del c, rfl, ?_⟩
    rcases c with ⟨_ | _, _ | _, _ | _⟩ <;> simpa [St.d, Old.d, New.d, St.needsR, St.ck, Ck.l, Ck.r] using q
end K03

set_option Elab.async false
set_option linter.all false
set_option maxRecDepth 100000
set_option maxHeartbeats 4000000
namespace K03
open PySem Fb

theorem meets_is_int : Meets G 19 1 ir_is_int := by
  rintro _ h Q E - ⟨x, b, rfl, e, q⟩
  unfold ir_is_int
  unfold isIntD at e
  obtain ⟨tx, e1, rfl⟩ := Option.map_eq_some_iff.mp e
  simp [startD, endOf, e1]
  cases h1 : tx.contains Ty.int <;> cases h2 : tx.contains Ty.bool <;> simp_all
theorem meets_is_row : Meets G 20 1 ir_is_row := by
  rintro _ h Q E - ⟨x, b, rfl, e, q⟩
  unfold ir_is_row
  cases x with
  | tup ds =>
    match ds with
    | [] => cases e; simp [startD, endOf, q]
    | [a] => cases e; simp [startD, endOf, q]
    | [a, c] =>
      simp only [isRowD] at e
      obtain ⟨ia, e1, e2⟩ := Option.bind_eq_some_iff.mp e
      simp [startD, endOf]
      refine ⟨a, ia, rfl, e1, ?_⟩
      cases ia with
      | false => cases e2; simp [q]
      | true =>
        rw [if_pos rfl] at e2
        simp
        cases hn : isNonD c with
        | true => rw [hn, if_pos rfl] at e2; cases e2; simp [q]
        | false =>
          rw [hn, if_neg (by decide)] at e2
          simp
          exact ⟨c, b, rfl, e2, q⟩
    | a :: b :: c :: r => cases e; simp [startD, endOf, q]; omega
  | ref l =>
    have e' : (tyD h (.ref l)).bind (fun tx => if tx.contains .tuple = true then none else some false) = some b := e
    obtain ⟨tx, e1, e2⟩ := Option.bind_eq_some_iff.mp e'
    split at e2
    · cases e2
    · rename_i z
      cases e2
      simp [startD, endOf, e1]
      simp_all
  | non => cases e; simp [startD, endOf, q]
  | bl _ => cases e; simp [startD, endOf, q]
  | int _ => cases e; simp [startD, endOf, q]
  | str _ => cases e; simp [startD, endOf, q]
  | lst _ => cases e; simp [startD, endOf, q]
  | obj _ _ _ => cases e
  | fn _ => cases e
  | exc _ _ _ _ _ => cases e
  | clo _ _ _ _ _ => cases e
theorem W_put (h : DH) (l : Nat) (a b c : Int) : W (put h l (.lst [.int a, .int b, .int c])) l := ⟨a, b, c, put_same⟩
theorem Fr_put (h : DH) (l : Nat) (o : O) : Fr h (put h l o) l := fun k hk _ => put_ne hk
@[simp] theorem ix_3 : L2.ixN 3 0 = some 0 := rfl
@[simp] theorem ix_32 : L2.ixN 3 2 = some 2 := rfl
theorem meets_draw : Meets G 3 4 ir__law_draw := by
  rintro _ h Q E - ⟨l, n, rfl, n0, n1, ⟨a, b, c, hl⟩, q⟩
  unfold ir__law_draw
  have m0 : ∀ x : Int, 0 ≤ x % n := fun x => Int.emod_nonneg _ (by omega)
  have m1 : ∀ x : Int, x % n < n := fun x => Int.emod_lt_of_pos _ n0
  have k0 : ∀ x : Int, 0 ≤ x % 2147483647 ∧ x % 2147483647 < 2147483647 := fun x => ⟨Int.emod_nonneg _ (by decide), Int.emod_lt_of_pos _ (by decide)⟩
  have k1 : ∀ x : Int, 0 ≤ x % 2147483587 ∧ x % 2147483587 < 2147483587 := fun x => ⟨Int.emod_nonneg _ (by decide), Int.emod_lt_of_pos _ (by decide)⟩
  have k2 : ∀ x y : Int, 0 ≤ x → x < 2147483647 → L2.CMul x y := fun x y h1 h2 => .inl ⟨by omega, by omega⟩
  have k3 : ∀ x : Int, L2.CMul 40087 x := fun x => .inl ⟨by decide, by decide⟩
  have k4 : ∀ x : Int, L2.CMul x 48271 := fun x => .inr ⟨by decide, by decide⟩
  have k5 : ∀ x : Int, L2.CDiv x 1021 := fun x => ⟨by decide, by decide⟩
  have k6 : ∀ x : Int, L2.CDiv x 2017 := fun x => ⟨by decide, by decide⟩
  have k7 : ∀ x : Int, L2.CDiv x n := fun x => ⟨n0, n1⟩
  simp [startD, endOf, hl, n0, k3, k4, k5, k6, k7]
  split
  · exact q _ _ (m0 _) (m1 _) (Fr_put _ _ _) (W_put _ _ _ _ _)
  · refine ⟨k2 _ _ (k0 _).1 (k0 _).2, k2 _ _ (k1 _).1 (by have := (k1 ((b + 40087 * (c + 1) + 11) * 48271 % 2147483647 * ((b + 40087 * (c + 1) + 11) * 48271 % 2147483647 / 1021 + 69691))).2; omega), q _ _ (m0 _) (m1 _) (Fr_put _ _ _) (W_put _ _ _ _ _)⟩
theorem meets_one : Meets G 4 2 ir__law_one := by
  rintro _ h Q E - ⟨l, xs, rfl, x0, x1, w, q⟩
  unfold ir__law_one
  simp [startD, endOf]
  refine ⟨l, _, rfl, ?_, by omega, w, fun d h' d0 d1 f' w' => ?_⟩
  · have : 0 < xs.length := List.length_pos_iff.mpr x0
    omega
  · obtain ⟨j, rfl⟩ := Int.eq_ofNat_of_zero_le d0
    have hj : j < xs.length := by omega
    have e : L2.atI xs (j : Int) = some xs[j] := by
      unfold L2.atI L2.ixN
      rw [if_pos (by omega), if_pos (by omega)]
      simp [hj]
    simp [e]
    exact q _ _ (List.getElem_mem hj) f' w'
theorem use_one {h : DH} {l : Nat} {xs : List D} {Q : QD} {E : XD} (n : xs ≠ [] ∧ xs.length ≤ 1000) (w : W h l) (q : ∀ d h', d ∈ xs → Fr h h' l → W h' l → Q d h') : sp_one [.ref l, .lst xs] h Q E := ⟨l, xs, rfl, n.1, n.2, w, q⟩
theorem use_draw {h : DH} {l : Nat} {n : Int} {Q : QD} {E : XD} (n0 : 0 < n) (n1 : n < 1073741824) (w : W h l) (q : ∀ d h', 0 ≤ d → d < n → Fr h h' l → W h' l → Q (.int d) h') : sp_draw [.ref l, .int n] h Q E := ⟨l, n, rfl, n0, n1, w, q⟩
theorem W_ne {h : DH} {l k : Nat} {o : O} (w : W h l) (e : h k = none) : W (put h k o) l := by
  obtain ⟨a, b, c, hl⟩ := w
  have : l ≠ k := fun z => by rw [z, e] at hl; cases hl
  exact ⟨a, b, c, by rw [put_ne this, hl]⟩
theorem W.some {h : DH} {l : Nat} (w : W h l) : h l ≠ none := by
  obtain ⟨a, b, c, hl⟩ := w
  rw [hl]; simp
theorem Fr.trans {h h1 h2 : DH} {l : Nat} (a : Fr h h1 l) (b : Fr h1 h2 l) : Fr h h2 l := fun k hk hn => by
  rw [b k hk (by rw [a k hk hn]; exact hn), a k hk hn]
theorem Fr.new {h : DH} {l k : Nat} {o : O} (hk : h k = none) : Fr h (put h k o) l := fun j _ hn => put_ne fun z => hn (z ▸ hk)
theorem Fr.refl (h : DH) (l : Nat) : Fr h h l := fun _ _ _ => rfl
theorem meets_odd_row : Meets G 5 2 ir__law_odd_row := by
  rintro _ h Q E - ⟨l, rfl, w, q⟩
  unfold ir__law_odd_row
  simp [startD, endOf]
  intro l1 e1 l2 e2
  have n2 : l2 ≠ l1 := fun z => by rw [z, put_same] at e2; cases e2
  have e2' : h l2 = none := by rw [put_ne n2] at e2; exact e2
  have w2 := W_ne (o := .dic [(.int 1, .int 2)]) (W_ne (o := .dic []) w e1) e2
  refine use_one (by simp) w2 fun d h' hd f w' => ?_
  have f0 : Fr h h' l := ((Fr.new e1).trans (Fr.new e2)).trans f
  have x1 : h' l1 = some (.dic []) := by
    rw [f l1 (fun z => w.some (z ▸ e1)) (by rw [put_ne (Ne.symm n2), put_same]; simp), put_ne (Ne.symm n2), put_same]
  have x2 : h' l2 = some (.dic [(.int 1, .int 2)]) := by
    rw [f l2 (fun z => w.some (z ▸ e2')) (by rw [put_same]; simp), put_same]
  refine q d h' ?_ f0 w'
  simp at hd
  rcases hd with rfl | rfl | rfl | rfl | rfl | rfl | rfl | rfl | rfl | rfl | rfl | rfl | rfl | rfl | rfl | rfl | rfl | rfl | rfl <;> simp [OddRow, isRowD, isIntD, tyD, x1, x2, isNonD]
end K03

set_option Elab.async false
set_option linter.all false
set_option maxRecDepth 100000
set_option maxHeartbeats 4000000
namespace K03
open PySem Fb
theorem forL_inv {step : D → Sg → DH → Po → Prop} {keep : DH → Prop} {P : Po} (I : Nat → Sg → DH → Prop) : ∀ (ds : List D) (n : Nat) (σ : Sg) (h : DH),
    (∀ n σ h, I n σ h → keep h) →
    (∀ d ∈ ds, ∀ n σ h P', I (n + 1) σ h → P'.rt = P.rt → P'.ex = P.ex → (∀ σ' h', I n σ' h' → P'.nx σ' h') → step d σ h P') →
    (∀ σ h, I n σ h → P.nx σ h) → I (n + ds.length) σ h → forL step keep P ds σ h
  | [], n, σ, h, hk, hs, hx, i => ⟨hk _ _ _ i, hx _ _ i⟩
  | d :: ds, n, σ, h, hk, hs, hx, i => ⟨hk _ _ _ i, hs d List.mem_cons_self (n + ds.length) σ h _ i rfl rfl fun σ' h' i' =>
      forL_inv I ds n σ' h' hk (fun d hd => hs d (List.mem_cons_of_mem _ hd)) hx i'⟩
end K03

set_option Elab.async false
set_option linter.all false
set_option maxRecDepth 100000
set_option maxHeartbeats 4000000
namespace K03
open PySem Fb
theorem meets_statements : Meets G 1 4 ir__law_statements := by
  rintro _ h Q E - ⟨hds, q⟩
  subst hds
  unfold ir__law_statements
  simp only [v_scons, v_asg, v_disp, v_cons, v_tup, v_cst, v_nil, mkL_true]
  intro l hl
  simp only [v_for, v_seq, v_call, v_nil, dfl_0, bind_0, spec_0, opt_m]
  refine ⟨rfl, ?_⟩
  refine forL_inv (fun n σ h => ∃ l ss x y z, σ = [some (.ref l), x, y, z] ∧ h l = some (.lst (ss.map St.d)) ∧ ss ≠ [] ∧ ss.length + 20 * n ≤ 162 ∧ ∀ s ∈ ss, s.ok) _ 0 _ _ (fun _ _ _ _ => trivial) ?_ ?_ ?_
  · rintro d hd n σ h P' ⟨l, ss, x, y, z, rfl, hl, s0, s1, sok⟩ hrt hex hnx
    obtain ⟨c, hc, rfl⟩ := List.mem_map.mp hd
    have b1 : ss.length < 16777216 := by omega
    have b2 : ss.length + 1 < 16777216 := by omega
    have b3 : ss.length + 2 < 16777216 := by omega
    have b4 : ss.length + 3 < 16777216 := by omega
    have b5 : ss.length + 4 < 16777216 := by omega
    have b6 : ss.length + 5 ≤ 16777211 := by omega
    have b7 : ss.length + 10 ≤ 16777211 := by omega
    have b8 : ss.length + 15 ≤ 16777211 := by omega
    simp [hl, b1, b2, b3, b4, b5]
    refine ⟨by omega, fun l1 _ => ⟨by omega, fun l2 _ => ⟨by omega, fun l3 _ => hnx _ _ ⟨l3, ss ++ [.del c, .put .none c, .put .now c, .put .read c, .put .copy c, .set .keep .keep c, .set .keep .none c, .set .keep .now c, .set .keep .read c, .set .keep .copy c, .set .input .keep c, .set .input .none c, .set .input .now c, .set .input .read c, .set .input .copy c, .set .read .keep c, .set .read .none c, .set .read .now c, .set .read .read c, .set .read .copy c], _, _, _, rfl, ?_, ?_, ?_, ?_⟩⟩⟩⟩
    · rw [List.map_append]
      exact put_same
    · simp
    · simp only [List.length_append, List.length_cons, List.length_nil]
      omega
    · intro s hs
      rcases List.mem_append.mp hs with hs | hs
      · exact sok s hs
      · simp only [List.mem_cons, List.not_mem_nil, or_false] at hs
        rcases hs with rfl | rfl | rfl | rfl | rfl | rfl | rfl | rfl | rfl | rfl | rfl | rfl | rfl | rfl | rfl | rfl | rfl | rfl | rfl | rfl <;> trivial
  · rintro σ h ⟨l, ss, x, y, z, rfl, hl, s0, s1, sok⟩
    simp [frzD, hl]
    exact q ss s0 (by omega) sok _
  · refine ⟨l, [.ins false, .ins true], none, none, none, rfl, put_same, by simp, by decide, ?_⟩
    intro s hs
    simp at hs
    rcases hs with rfl | rfl <;> trivial
@[simp] theorem ix_0 (n : Nat) : L2.ixN (n + 1) 0 = some 0 := by
  unfold L2.ixN
  rw [if_pos (by decide), if_pos (by omega)]
  rfl
theorem meets_well : Meets G 2 3 ir__law_well := by
  rintro _ h Q E - ⟨ns, k, rfl, n1, k1, q⟩
  unfold ir__law_well
  have p1 : L2.CPow 10 18 := ⟨by decide, by decide, by decide⟩
  have cm : ∀ x : Int, L2.CMul 7919 x := fun x => .inl ⟨by decide, by decide⟩
  have hat : ∃ c : Int, L2.atI (ns.map D.int ++ List.replicate (k + 1) (D.int 0)) (k : Int) = some (.int c) := by
    have e : List.replicate (k + 1) (D.int 0) = (List.replicate (k + 1) (0 : Int)).map D.int := by
      simp
    rw [e, ← List.map_append]
    have hl : k < (ns ++ List.replicate (k + 1) (0 : Int)).length := by simp; omega
    refine ⟨(ns ++ List.replicate (k + 1) (0 : Int))[k], ?_⟩
    unfold L2.atI L2.ixN
    rw [if_pos (by omega), if_pos (by simp; omega)]
    simp only [Option.bind_some, Int.toNat_natCast, List.getElem?_map, List.getElem?_eq_getElem hl, Option.map_some]
  obtain ⟨c, hc⟩ := hat
  have e1 : ((k : Int) + 1).toNat = k + 1 := by omega
  have c2 : ∀ b : Bool, L2.CMul c (if b = true then 1 else 0) := fun b => .inr (by cases b <;> decide)
  simp only [startD, endOf]
  simp [hc, p1, cm, e1]
  refine ⟨by omega, by omega, by omega, by omega, ?_, fun l _ => q _ _ (W_put _ _ _ _ _)⟩
  split
  · exact c2 true
  · exact c2 false
end K03

set_option Elab.async false
set_option linter.all false
set_option maxRecDepth 100000
set_option maxHeartbeats 4000000
namespace K03
open PySem Fb

theorem row_true (h : DH) (r : Row) : isRowD h (rowD r) = some true := by
  obtain ⟨a, b⟩ := r
  cases b <;> simp [rowD, srcD, isRowD, isIntD, tyD, isNonD]
theorem cf_2 : G.cfld 2 = [("part" : Str)] := rfl
theorem cf_1 : G.cfld 1 = [] := rfl
theorem int_true (h : DH) (i : Int) : isIntD h (.int i) = some true := by simp [isIntD, tyD]
theorem meets_applied : Meets G 21 4 ir_applied := by
  rintro _ h Q E - ⟨x, p, v, s, rfl, hc⟩
  unfold ir_applied
  rw [v_scons]
  rcases hc with ⟨hb, q⟩ | ⟨st, rfl, ok, hc⟩
  · simp [startD, endOf]
    exact .inr ⟨x, rfl, hb, q⟩
  have t1 : ∀ (P : Po), P.nx [some st.d, some p, some v, some s] h → wpS G (.expr (.call 11 (.cons (.var 0) .nil) [] .nil)) [some st.d, some p, some v, some s] h P := fun P q => by
    simp
    exact .inl ⟨st, rfl, ok, q⟩
  refine t1 _ ?_
  clear t1
  show wpSs G (.cons _ _) _ _ _
  rw [v_scons]
  rcases hc with ⟨⟨ho, hn⟩, q⟩ | ⟨r, rfl, hc⟩
  · simp [endOf, hn]
    refine ⟨p, false, rfl, ho, ?_⟩
    simpa [cf_2] using q
  have t2 : ∀ (P : Po), P.nx [some st.d, some (orowD r), some v, some s] h → wpS G (.ifs (.band (.cons (.isN true (.var 1)) (.cons (.not (.call 20 (.cons (.var 1) .nil) [] .nil)) .nil))) (.cons (.raise 2 (.cons (.cst (.str "row")) .nil)) .nil) .nil) [some st.d, some (orowD r), some v, some s] h P := fun P q => by
    cases r with
    | none => simpa [orowD, isNonD] using q
    | some r =>
      simp [orowD]
      refine ⟨_, true, rfl, row_true h r, ?_⟩
      simpa [orowD] using q
  refine t2 _ ?_
  clear t2
  show wpSs G (.cons _ _) _ _ _
  rw [v_scons]
  rcases hc with ⟨n1, n2, q⟩ | ⟨hi, hc⟩
  · simp [endOf]
    refine ⟨st, rfl, ok, ?_⟩
    simp [n1]
    refine ⟨v, false, rfl, n2, ?_⟩
    simpa [cf_2] using q
  have t3 : ∀ (P : Po), P.nx [some st.d, some (orowD r), some v, some s] h → wpS G (.ifs (.band (.cons (.call 17 (.cons (.var 0) .nil) [] .nil) (.cons (.not (.call 19 (.cons (.var 2) .nil) [] .nil)) .nil))) (.cons (.raise 2 (.cons (.cst (.str "value")) .nil)) .nil) .nil) [some st.d, some (orowD r), some v, some s] h P := fun P q => by
    simp
    refine ⟨st, rfl, ok, ?_⟩
    cases hI : st.needsI with
    | false => simpa using q
    | true =>
      obtain ⟨i, rfl⟩ := hi hI
      simp
      refine ⟨_, true, rfl, int_true h i, ?_⟩
      simpa using q
  refine t3 _ ?_
  clear t3
  show wpSs G (.cons _ _) _ _ _
  rw [v_scons]
  rcases hc with ⟨n1, n2, q⟩ | ⟨hr, q⟩
  · simp [endOf]
    refine ⟨st, rfl, ok, ?_⟩
    simp [n1]
    refine ⟨s, false, rfl, n2, ?_⟩
    simpa [cf_2] using q
  have t4 : ∀ (P : Po), P.nx [some st.d, some (orowD r), some v, some s] h → wpS G (.ifs (.band (.cons (.call 18 (.cons (.var 0) .nil) [] .nil) (.cons (.not (.call 20 (.cons (.var 3) .nil) [] .nil)) .nil))) (.cons (.raise 2 (.cons (.cst (.str "seen")) .nil)) .nil) .nil) [some st.d, some (orowD r), some v, some s] h P := fun P q => by
    simp
    refine ⟨st, rfl, ok, ?_⟩
    cases hR : st.needsR with
    | false => simpa using q
    | true =>
      obtain ⟨c, rfl⟩ := hr hR
      simp
      refine ⟨_, true, rfl, row_true h c, ?_⟩
      simpa using q
  refine t4 _ ?_
  clear t4
  show wpSs G (.cons _ _) _ _ _
  simp [endOf]
  have hi' : ∃ i, st.needsI = true → v = .int i := by
    cases hI : st.needsI with
    | false => exact ⟨0, fun z => nomatch z⟩
    | true => obtain ⟨i, e⟩ := hi hI; exact ⟨i, fun _ => e⟩
  have hr' : ∃ c, st.needsR = true → s = rowD c := by
    cases hR : st.needsR with
    | false => exact ⟨(0, none), fun z => nomatch z⟩
    | true => obtain ⟨i, e⟩ := hr hR; exact ⟨i, fun _ => e⟩
  obtain ⟨i, hi'⟩ := hi'
  obtain ⟨c, hr'⟩ := hr'
  exact ⟨st, r, v, s, i, c, rfl, ok, hi', hr', q _⟩
theorem meets_said : TMeets G 23 2 ir__law_said := by
  intro B f c q sl sv h Q mB w
  unfold ir__law_said
  simp [startD, endOf, actB]
  refine ⟨f, c, q, sl, sv, ⟨rfl, rfl, rfl, rfl, rfl⟩, rfl, rfl, rfl, rfl, rfl, mB _ _ _ _ _ (fun _ _ z => z) (fun c fs h z => ?_) w⟩
  unfold saidE at z
  have s11 : G.sub 1 1 = true := rfl
  have s12 : G.sub 1 2 = false := rfl
  have s21 : G.sub 2 1 = false := rfl
  have s22 : G.sub 2 2 = true := rfl
  have s01 : G.sub 0 1 = false := rfl
  have s02 : G.sub 0 2 = false := rfl
  have s00 : G.sub 0 0 = true := rfl
  split at z
  · rename_i e
    subst e
    simpa [s11, catN] using z
  · split at z
    · rename_i e
      subst e
      obtain ⟨p, rfl, z⟩ := z
      simp [s21, s22, catN, cf_2]
      exact fun a d => ⟨a, d, 2, _, _, ⟨rfl, rfl, rfl, rfl, rfl⟩, ⟨⟨rfl, rfl, rfl⟩, cf_2.symm⟩, p, by simp, z⟩
    · obtain ⟨rfl, z⟩ := z
      simpa [s01, s02, s00, catN] using z
end K03

set_option Elab.async false
set_option linter.all false
set_option maxRecDepth 100000
set_option maxHeartbeats 4000000
namespace K03
open PySem Fb

def St.word : St → String
  | .set _ _ _ => "set" | .put _ _ => "put" | .ins _ => "insert" | .del _ => "delete"
@[simp] theorem at_3 (x y z t : D) (xs : List D) : L2.atI (x :: y :: z :: t :: xs) 3 = some t := by
  unfold L2.atI L2.ixN
  rw [if_pos (by decide), if_pos (by simp only [List.length_cons]; omega)]
  rfl
@[simp] theorem it_0 (s : St) : L2.atI s.items 0 = some (S s.word) := by cases s <;> simp [St.items, St.word]
theorem it_len (s : St) : s.items.length ≤ 4 := by cases s <;> simp [St.items]
/-- what is drawn -/
structure Dr (w0 w1 w2 w3 : Int) (s : St) (r : Option Row) (h : DH) (x p v c : D) : Prop where
  x0 : w0 = 0 → StBad h x
  x1 : w0 ≠ 0 → x = s.d
  p0 : w1 = 0 → OddRow h p
  p1 : w1 ≠ 0 → p = orowD r
  v0 : w2 = 0 → isIntD h v = some false
  v1 : w2 ≠ 0 → v = .int 7
  c0 : w3 = 0 → isRowD h c = some false
  c1 : w3 ≠ 0 → c = rowD (2, some 4)
abbrev F (ns : List Int) (ss : List St) (k : Int) (l : Nat) (t x5 x6 x7 x8 x9 x10 x11 x12 x13 x14 : Option D) : Sg := [some (.lst (ns.map D.int)), some (.lst (ss.map St.d)), some (.int k), some (.ref l), t, x5, x6, x7, x8, x9, x10, x11, x12, x13, x14]
def due (w0 w1 w2 w3 : Int) (s : St) : String := if w0 = 0 then "step" else if w1 = 0 then "row" else if w2 = 0 ∧ s.needsI = true then "value" else if w3 = 0 ∧ s.needsR = true then "seen" else "none"
theorem bad_up {h h' : DH} {l : Nat} {x : D} (f : Fr h h' l) (w : W h l) (b : StBad h x) : StBad h' x := by
  rcases b with b | b | b | b | b | ⟨l1, kvs, e1, e2⟩ | b
  · exact .inl b
  · exact .inr (.inl b)
  · exact .inr (.inr (.inl b))
  · exact .inr (.inr (.inr (.inl b)))
  · exact .inr (.inr (.inr (.inr (.inl b))))
  · refine .inr (.inr (.inr (.inr (.inr (.inl ⟨l1, kvs, e1, ?_⟩)))))
    rw [f l1 (fun z => by obtain ⟨a, b, c, hl⟩ := w; rw [← z, e2] at hl; cases hl) (by rw [e2]; simp), e2]
  · exact .inr (.inr (.inr (.inr (.inr (.inr b)))))
theorem ty_up {h h' : DH} {l : Nat} {x : D} {tx : List Ty} (f : Fr h h' l) (w : W h l) (w' : W h' l) (b : tyD h x = some tx) : tyD h' x = some tx := by
  cases x with
  | ref k =>
    by_cases hk : k = l
    · obtain ⟨a, b1, c, hl⟩ := w
      obtain ⟨a', b1', c', hl'⟩ := w'
      subst hk
      simp [tyD, hl] at b
      simp [tyD, hl', b]
    · cases e : h k with
      | none => simp [tyD, e] at b
      | some o =>
        have : h' k = h k := f k hk (by rw [e]; simp)
        simp only [tyD, this]
        simpa [tyD] using b
  | _ => exact b
theorem int_up {h h' : DH} {l : Nat} {x : D} {b : Bool} (f : Fr h h' l) (w : W h l) (w' : W h' l) (e : isIntD h x = some b) : isIntD h' x = some b := by
  unfold isIntD at e ⊢
  obtain ⟨tx, e1, e2⟩ := Option.map_eq_some_iff.mp e
  rw [ty_up f w w' e1]
  exact congrArg some e2
theorem rowb_up {h h' : DH} {l : Nat} {x : D} {b : Bool} (f : Fr h h' l) (w : W h l) (w' : W h' l) (e : isRowD h x = some b) : isRowD h' x = some b := by
  have gen : ∀ x, (tyD h x).bind (fun tx => if tx.contains .tuple = true then none else some false) = some b → (tyD h' x).bind (fun tx => if tx.contains .tuple = true then none else some false) = some b := fun x e => by
    obtain ⟨tx, e1, e2⟩ := Option.bind_eq_some_iff.mp e
    rw [ty_up f w w' e1]
    exact e2
  cases x with
  | tup ds =>
    match ds with
    | [] => exact e
    | [a] => exact e
    | [a, c] =>
      simp only [isRowD] at e ⊢
      obtain ⟨ia, e1, e2⟩ := Option.bind_eq_some_iff.mp e
      rw [int_up f w w' e1]
      show (if ia = true then (if isNonD c = true then some true else isIntD h' c) else some false) = some b
      cases ia with
      | false => exact e2
      | true =>
        rw [if_pos rfl] at e2 ⊢
        cases hn : isNonD c with
        | true => rw [hn] at e2; exact e2
        | false => rw [hn] at e2; exact int_up f w w' e2
    | a :: c :: d :: r => exact e
  | ref k => exact gen (.ref k) e
  | non => exact e
  | bl _ => exact e
  | int _ => exact e
  | str _ => exact e
  | lst _ => exact e
  | obj _ _ _ => exact e
  | fn _ => exact e
  | exc _ _ _ _ _ => exact e
  | clo _ _ _ _ _ => exact e
section
variable {ns : List Int} {ss : List St} {k : Int} {l : Nat} {t : Option D} {h : DH} {P : Po}
theorem t3 {x5 x6 x7 x8 x9 x10 x11 x12 x13 x14 : Option D} (s0 : ss ≠ []) (s1 : ss.length ≤ 1000) (w : W h l) (q : ∀ s h', s ∈ ss → W h' l → P.nx (F ns ss k l t (some (St.d s)) x6 x7 x8 x9 x10 x11 x12 x13 x14) h') : wpS G s_law_3 (F ns ss k l t x5 x6 x7 x8 x9 x10 x11 x12 x13 x14) h P := by
  unfold s_law_3
  simp
  refine use_one (by simpa using ⟨s0, s1⟩) w fun d h1 hd _ w1 => ?_
  obtain ⟨s, hs, rfl⟩ := List.mem_map.mp hd
  simpa using q s h1 hs w1
theorem t4 {x5 x6 x7 x8 x9 x10 x11 x12 x13 x14 : Option D} (w : W h l) (q : ∀ r h', W h' l → P.nx (F ns ss k l t x5 (some (orowD r)) x7 x8 x9 x10 x11 x12 x13 x14) h') : wpS G s_law_4 (F ns ss k l t x5 x6 x7 x8 x9 x10 x11 x12 x13 x14) h P := by
  unfold s_law_4
  simp
  refine use_one (by simp) w fun d h1 hd _ w1 => ?_
  simp at hd
  rcases hd with rfl | rfl | rfl
  · exact q none h1 w1
  · exact q (some (4, none)) h1 w1
  · exact q (some (4, some 7)) h1 w1
theorem t5 {x5 x6 x7 x8 x9 x10 x11 x12 x13 x14 : Option D} (w : W h l) (q : ∀ w0 w1 w2 w3 h', W h' l → P.nx (F ns ss k l t x5 x6 (some (.lst [.int w0, .int w1, .int w2, .int w3])) x8 x9 x10 x11 x12 x13 x14) h') : wpS G s_law_5 (F ns ss k l t x5 x6 x7 x8 x9 x10 x11 x12 x13 x14) h P := by
  unfold s_law_5
  have e4 : List.range 4 = [0, 1, 2, 3] := rfl
  simp [e4]
  refine use_draw (by decide) (by decide) w fun a h1 _ _ _ w1 => ?_
  refine use_draw (by decide) (by decide) w1 fun b h2 _ _ _ w2 => ?_
  refine use_draw (by decide) (by decide) w2 fun c h3 _ _ _ w3 => ?_
  refine use_draw (by decide) (by decide) w3 fun d h4 _ _ _ w4 => ?_
  exact q a b c d h4 w4
theorem t6 {s : St} {x6 x7 x8 x9 x10 x11 x12 x13 x14 : Option D} (w : W h l) (q : ∀ l1 h', W h' l → h' l1 = some (.dic []) → P.nx (F ns ss k l t (some s.d) x6 x7 (some (.lst [.non, .tup [], .lst s.items, S s.word, .tup (s.items ++ [.tup []]), .int 5, .ref l1])) x9 x10 x11 x12 x13 x14) h') : wpS G s_law_6 (F ns ss k l t (some s.d) x6 x7 x8 x9 x10 x11 x12 x13 x14) h P := by
  unfold s_law_6
  rw [St.d_eq] at q ⊢
  have := it_len s
  simp
  refine ⟨by omega, fun l1 e1 => ?_⟩
  simpa using q l1 _ (W_ne w e1) put_same
theorem t7 {s : St} {r : Option Row} {w0 w1 w2 w3 : Int} {l1 : Nat} {x9 x10 x11 x12 x13 x14 : Option D} (ok : s.ok) (w : W h l) (hl : h l1 = some (.dic [])) (q : ∀ x h', W h' l → (w0 = 0 → StBad h' x) → (w0 ≠ 0 → x = s.d) → P.nx (F ns ss k l t (some s.d) (some (orowD r)) (some (.lst [.int w0, .int w1, .int w2, .int w3])) (some (.lst [.non, .tup [], .lst s.items, S s.word, .tup (s.items ++ [.tup []]), .int 5, .ref l1])) (some x) x10 x11 x12 x13 x14) h') :
    wpS G s_law_7 (F ns ss k l t (some s.d) (some (orowD r)) (some (.lst [.int w0, .int w1, .int w2, .int w3])) (some (.lst [.non, .tup [], .lst s.items, S s.word, .tup (s.items ++ [.tup []]), .int 5, .ref l1])) x9 x10 x11 x12 x13 x14) h P := by
  unfold s_law_7
  simp
  split
  · rename_i e
    refine use_one (by simp) w fun d h1 hd f w' => ?_
    have hl' : h1 l1 = some (.dic []) := by
      rw [f l1 (fun z => by obtain ⟨a, b, c, hw⟩ := w; rw [← z, hl] at hw; cases hw) (by rw [hl]; simp), hl]
    have : StBad h1 d := by
      simp at hd
      rcases hd with rfl | rfl | rfl | rfl | rfl | rfl | rfl
      · exact .inl rfl
      · exact .inr (.inl rfl)
      · exact .inr (.inr (.inl ⟨_, rfl⟩))
      · exact .inr (.inr (.inr (.inl ⟨_, rfl⟩)))
      · exact .inr (.inr (.inr (.inr (.inr (.inr ⟨s, ok, rfl⟩)))))
      · exact .inr (.inr (.inr (.inr (.inl rfl))))
      · exact .inr (.inr (.inr (.inr (.inr (.inl ⟨l1, [], rfl, hl'⟩)))))
    simpa using q d h1 w' (fun _ => this) (fun z => absurd e z)
  · rename_i e
    simpa using q s.d h w (fun z => absurd z e) (fun _ => rfl)
theorem t8 {x6 : D} {w0 w1 w2 w3 : Int} {x5 x8 x9 x10 x11 x12 x13 x14 : Option D} (w : W h l) (q : ∀ p h', W h' l → Fr h h' l → (w1 = 0 → OddRow h' p) → (w1 ≠ 0 → p = x6) → P.nx (F ns ss k l t x5 (some x6) (some (.lst [.int w0, .int w1, .int w2, .int w3])) x8 x9 (some p) x11 x12 x13 x14) h') :
    wpS G s_law_8 (F ns ss k l t x5 (some x6) (some (.lst [.int w0, .int w1, .int w2, .int w3])) x8 x9 x10 x11 x12 x13 x14) h P := by
  unfold s_law_8
  simp
  split
  · rename_i e
    refine ⟨l, rfl, w, fun d h1 hd f w' => ?_⟩
    simpa using q d h1 w' f (fun _ => hd) (fun z => absurd e z)
  · rename_i e
    simpa using q x6 h w (Fr.refl _ _) (fun z => absurd z e) (fun _ => rfl)
theorem t9 {w0 w1 w2 w3 : Int} {x5 x6 x8 x9 x10 x11 x12 x13 x14 : Option D} (w : W h l) (q : ∀ v h', W h' l → Fr h h' l → (w2 = 0 → isIntD h' v = some false) → (w2 ≠ 0 → v = .int 7) → P.nx (F ns ss k l t x5 x6 (some (.lst [.int w0, .int w1, .int w2, .int w3])) x8 x9 x10 (some v) x12 x13 x14) h') :
    wpS G s_law_9 (F ns ss k l t x5 x6 (some (.lst [.int w0, .int w1, .int w2, .int w3])) x8 x9 x10 x11 x12 x13 x14) h P := by
  unfold s_law_9
  simp
  split
  · rename_i e
    intro l1 e1
    have w2' := W_ne (o := .dic []) w e1
    refine use_one (by simp) w2' fun d h1 hd f w' => ?_
    have hl' : h1 l1 = some (.dic []) := by
      rw [f l1 (fun z => w.some (z ▸ e1)) (by rw [put_same]; simp), put_same]
    have : isIntD h1 d = some false := by
      simp at hd
      rcases hd with rfl | rfl | rfl | rfl | rfl | rfl <;> simp [isIntD, tyD, hl']
    simpa using q d h1 w' ((Fr.new e1).trans f) (fun _ => this) (fun z => absurd e z)
  · rename_i e
    simpa using q (.int 7) h w (Fr.refl _ _) (fun z => absurd z e) (fun _ => rfl)
theorem t10 {w0 w1 w2 w3 : Int} {x5 x6 x8 x9 x10 x11 x12 x13 x14 : Option D} (w : W h l) (q : ∀ v h', W h' l → Fr h h' l → (w3 = 0 → isRowD h' v = some false) → (w3 ≠ 0 → v = rowD (2, some 4)) → P.nx (F ns ss k l t x5 x6 (some (.lst [.int w0, .int w1, .int w2, .int w3])) x8 x9 x10 x11 (some v) x13 x14) h') :
    wpS G s_law_10 (F ns ss k l t x5 x6 (some (.lst [.int w0, .int w1, .int w2, .int w3])) x8 x9 x10 x11 x12 x13 x14) h P := by
  unfold s_law_10
  simp
  split
  · rename_i e
    refine ⟨l, rfl, w, fun d h1 hd f w' => ?_⟩
    simp
    refine use_one (by simp) w' fun y h2 hy f2 w2' => ?_
    have : isRowD h2 y = some false := by
      simp at hy
      rcases hy with rfl | rfl
      · rfl
      · exact rowb_up f2 w' w2' hd.1
    simpa using q y h2 w2' (f.trans f2) (fun _ => this) (fun z => absurd e z)
  · rename_i e
    simpa [rowD, srcD] using q (rowD (2, some 4)) h w (Fr.refl _ _) (fun z => absurd z e) (fun _ => rfl)
end
end K03

set_option Elab.async false
set_option linter.all false
set_option maxRecDepth 100000
set_option maxHeartbeats 4000000
namespace K03
open PySem Fb

section
variable {ns : List Int} {ss : List St} {k : Int} {l : Nat} {t : Option D} {h : DH} {P : Po}
theorem u13 {s : St} {w0 w1 w2 w3 : Int} {e : String} {x6 x8 x9 x10 x11 x12 x14 : Option D} (ok : s.ok) (q : P.nx (F ns ss k l t (some s.d) x6 (some (.lst [.int w0, .int w1, .int w2, .int w3])) x8 x9 x10 x11 x12 (some (S (if w3 = 0 ∧ s.needsR = true then "seen" else e))) x14) h) :
    wpS G s_law_13 (F ns ss k l t (some s.d) x6 (some (.lst [.int w0, .int w1, .int w2, .int w3])) x8 x9 x10 x11 x12 (some (S e)) x14) h P := by
  unfold s_law_13 s_law_12
  simp
  by_cases h3 : w3 = 0
  · simp [h3]
    refine ⟨s, rfl, ok, ?_⟩
    cases hr : s.needsR <;> simpa [h3, hr] using q
  · simpa [h3] using q
theorem u15 {s : St} {w0 w1 w2 w3 : Int} {e : String} {x6 x8 x9 x10 x11 x12 x14 : Option D} (ok : s.ok) (q : P.nx (F ns ss k l t (some s.d) x6 (some (.lst [.int w0, .int w1, .int w2, .int w3])) x8 x9 x10 x11 x12 (some (S (if w2 = 0 ∧ s.needsI = true then "value" else e))) x14) h) :
    wpS G s_law_15 (F ns ss k l t (some s.d) x6 (some (.lst [.int w0, .int w1, .int w2, .int w3])) x8 x9 x10 x11 x12 (some (S e)) x14) h P := by
  unfold s_law_15 s_law_14
  simp
  by_cases h3 : w2 = 0
  · simp [h3]
    refine ⟨s, rfl, ok, ?_⟩
    cases hr : s.needsI <;> simpa [h3, hr] using q
  · simpa [h3] using q
theorem u17 {w0 w1 w2 w3 : Int} {e : String} {x5 x6 x8 x9 x10 x11 x12 x14 : Option D} (q : P.nx (F ns ss k l t x5 x6 (some (.lst [.int w0, .int w1, .int w2, .int w3])) x8 x9 x10 x11 x12 (some (S (if w1 = 0 then "row" else e))) x14) h) :
    wpS G s_law_17 (F ns ss k l t x5 x6 (some (.lst [.int w0, .int w1, .int w2, .int w3])) x8 x9 x10 x11 x12 (some (S e)) x14) h P := by
  unfold s_law_17 s_law_16
  simp
  by_cases h3 : w1 = 0 <;> simpa [h3] using q
theorem u19 {w0 w1 w2 w3 : Int} {e : String} {x5 x6 x8 x9 x10 x11 x12 x14 : Option D} (q : P.nx (F ns ss k l t x5 x6 (some (.lst [.int w0, .int w1, .int w2, .int w3])) x8 x9 x10 x11 x12 (some (S (if w0 = 0 then "step" else e))) x14) h) :
    wpS G s_law_19 (F ns ss k l t x5 x6 (some (.lst [.int w0, .int w1, .int w2, .int w3])) x8 x9 x10 x11 x12 (some (S e)) x14) h P := by
  unfold s_law_19 s_law_18
  simp
  by_cases h3 : w0 = 0 <;> simpa [h3] using q
theorem u11 {x5 x6 x7 x8 x9 x10 x11 x12 x13 x14 : Option D} (q : P.nx (F ns ss k l t x5 x6 x7 x8 x9 x10 x11 x12 (some (S "none")) x14) h) : wpS G s_law_11 (F ns ss k l t x5 x6 x7 x8 x9 x10 x11 x12 x13 x14) h P := by
  unfold s_law_11
  simpa using q
theorem u21 {s : St} {r : Option Row} {w0 w1 w2 w3 : Int} {x p v c : D} {x5 x6 x7 x8 x14 : Option D} (ok : s.ok) (dr : Dr w0 w1 w2 w3 s r h x p v c) (q : P.nx (F ns ss k l t x5 x6 x7 x8 (some x) (some p) (some v) (some c) (some (S (due w0 w1 w2 w3 s))) x14) h) :
    wpS G s_law_21 (F ns ss k l t x5 x6 x7 x8 (some x) (some p) (some v) (some c) (some (S (due w0 w1 w2 w3 s))) x14) h P := by
  unfold s_law_21 s_law_20
  simp [tk_said]
  refine ⟨x, p, v, c, rfl, ?_⟩
  by_cases h0 : w0 = 0
  · refine .inl ⟨dr.x0 h0, ?_⟩
    simpa [saidE, due, h0] using q
  refine .inr ⟨s, dr.x1 h0, ok, ?_⟩
  by_cases h1 : w1 = 0
  · refine .inl ⟨dr.p0 h1, ?_⟩
    simpa [saidE, due, h0, h1] using q
  refine .inr ⟨r, dr.p1 h1, ?_⟩
  by_cases h2 : w2 = 0 ∧ s.needsI = true
  · refine .inl ⟨h2.2, dr.v0 h2.1, ?_⟩
    simpa [saidE, due, h0, h1, h2] using q
  refine .inr ⟨fun z => ⟨7, dr.v1 fun y => h2 ⟨y, z⟩⟩, ?_⟩
  by_cases h3 : w3 = 0 ∧ s.needsR = true
  · refine .inl ⟨h3.2, dr.c0 h3.1, ?_⟩
    simpa [saidE, due, h0, h1, h2, h3] using q
  refine .inr ⟨fun z => ⟨(2, some 4), dr.c1 fun y => h3 ⟨y, z⟩⟩, fun y => ?_⟩
  simpa [saidE, due, h0, h1, h2, h3] using q
end
theorem meets_law : Meets G 22 15 ir_law := by
  rintro _ h Q E - ⟨ns, rfl, n1, q⟩
  unfold ir_law s_law_1 s_law_23
  simp [startD, endOf]
  refine ⟨rfl, fun ss s0 s1 sok h1 => ?_⟩
  refine ⟨by omega, by omega, ?_⟩
  refine forL_inv (fun _ σ h => ∃ k x3 t x5 x6 x7 x8 x9 x10 x11 x12 x13 x14, σ = [some (.lst (ns.map D.int)), some (.lst (ss.map St.d)), k, x3, t, x5, x6, x7, x8, x9, x10, x11, x12, x13, x14]) _ 0 _ _ (fun _ _ _ _ => trivial) ?_ ?_ ⟨_, _, _, _, _, _, _, _, _, _, _, _, _, rfl⟩
  · rintro d hd n σ h P' ⟨k, x3, t, x5, x6, x7, x8, x9, x10, x11, x12, x13, x14, rfl⟩ hrt hex hnx
    simp at hd
    obtain ⟨k, hk, rfl⟩ := hd
    unfold s_law_2 s_law_22
    simp
    refine ⟨ns, k, rfl, by omega, by omega, fun l h2 w2 => ?_⟩
    refine forL_inv (fun _ σ h => ∃ t x5 x6 x7 x8 x9 x10 x11 x12 x13 x14, σ = F ns ss k l t x5 x6 x7 x8 x9 x10 x11 x12 x13 x14 ∧ W h l) _ 0 _ _ (fun _ _ _ _ => trivial) ?_ ?_ ⟨_, _, _, _, _, _, _, _, _, _, _, rfl, w2⟩
    · rintro d hd n σ h P'' ⟨t, x5, x6, x7, x8, x9, x10, x11, x12, x13, x14, rfl, w3⟩ hrt' hex' hnx'
      show wpS G s_law_3 (F ns ss k l (some d) x5 x6 x7 x8 x9 x10 x11 x12 x13 x14) h _
      refine t3 s0 s1 w3 fun s h3 hs w4 => ?_
      have ok := sok s hs
      dsimp only
      refine t4 w4 fun r h4 w5 => ?_
      dsimp only
      refine t5 w5 fun v0 v1 v2 v3 h5 w6 => ?_
      dsimp only
      refine t6 w6 fun l1 h6 w7 hl1 => ?_
      dsimp only
      refine t7 ok w7 hl1 fun x h7 w8 a1 a2 => ?_
      dsimp only
      refine t8 w8 fun p h8 w9 f8 b1 b2 => ?_
      dsimp only
      refine t9 w9 fun v h9 w10 f9 c1 c2 => ?_
      dsimp only
      refine t10 w10 fun c h10 w11 f10 d1 d2 => ?_
      have dr : Dr v0 v1 v2 v3 s r h10 x p v c := ⟨fun z => bad_up f10 w10 (bad_up f9 w9 (bad_up f8 w8 (a1 z))), a2, fun z => ⟨rowb_up f10 w10 w11 (rowb_up f9 w9 w10 (b1 z).1), (b1 z).2⟩, b2, fun z => int_up f10 w10 w11 (c1 z), c2, d1, d2⟩
      dsimp only
      refine u11 ?_
      dsimp only
      refine u13 ok ?_
      dsimp only
      refine u15 ok ?_
      dsimp only
      refine u17 ?_
      dsimp only
      refine u19 ?_
      dsimp only
      refine u21 ok dr ?_
      exact hnx' _ _ ⟨_, _, _, _, _, _, _, _, _, _, _, rfl, w11⟩
    · rintro σ h ⟨t, x5, x6, x7, x8, x9, x10, x11, x12, x13, x14, rfl, w3⟩
      exact hnx _ _ ⟨_, _, _, _, _, _, _, _, _, _, _, _, _, rfl⟩
  · rintro σ h ⟨k, x3, t, x5, x6, x7, x8, x9, x10, x11, x12, x13, x14, rfl⟩
    unfold s_law_24
    simp [tk_said]
    refine ⟨_, _, _, _, rfl, .inr ⟨.ins false, rfl, trivial, .inr ⟨none, rfl, .inl ⟨rfl, rfl, ?_⟩⟩⟩⟩
    simpa [saidE] using q _
end K03

set_option Elab.async false
set_option linter.all false
set_option maxRecDepth 100000
set_option maxHeartbeats 0
namespace K03
open PySem PySem.Spec L2 Fb
section
variable {P : Program} {w : World} {K : PySem.W.Frag} {mg : Str → Option Value} {base : Heap} {f : Addr} {fd : FuncData}
theorem ff__law_checks_all (w0 : World0 G (A0 clsD K) nm P w K mg base) (hm : mg "_law_checks_all" = some (.ref f)) (F : FunD K "_law_checks_all" "_law_checks_all" (defArgs (topS 27)) (defBody (topS 27)) (defScope (topS 27)) [] [] f fd) (ih : AllF G (A0 clsD K) nm P w K mg base 0) : FnFact G (A0 clsD K) P w K mg base 0 0 "_law_checks_all" [] [(0, [])] := by
  refine ⟨f, fd, hm, F.kp, fn_good (T := nm) (k := 0) w0 rfl F sc__law_checks_all rfl m__law_checks_all meets_checks_all (fun j nm ps shs hj e => ih.1 j nm ps shs hj e) (fun j nm e hj => ih.2 j nm e hj) (fun z => nomatch z), fun sh hs => ?_⟩
  simp only [List.mem_cons, List.not_mem_nil, or_false] at hs
  rcases hs with rfl
  · exact sh_plain F rfl rfl fun _ _ _ _ _ _ us hl => match us, hl with | [], _ => rfl
theorem ff__law_statements (w0 : World0 G (A0 clsD K) nm P w K mg base) (hm : mg "_law_statements" = some (.ref f)) (F : FunD K "_law_statements" "_law_statements" (defArgs (topS 28)) (defBody (topS 28)) (defScope (topS 28)) [] [] f fd) (ih : AllF G (A0 clsD K) nm P w K mg base 1) : FnFact G (A0 clsD K) P w K mg base 1 1 "_law_statements" [] [(0, [])] := by
  refine ⟨f, fd, hm, F.kp, fn_good (T := nm) (k := 1) w0 rfl F sc__law_statements rfl m__law_statements meets_statements (fun j nm ps shs hj e => ih.1 j nm ps shs hj e) (fun j nm e hj => ih.2 j nm e hj) (fun z => nomatch z), fun sh hs => ?_⟩
  simp only [List.mem_cons, List.not_mem_nil, or_false] at hs
  rcases hs with rfl
  · exact sh_plain F rfl rfl fun _ _ _ _ _ _ us hl => match us, hl with | [], _ => rfl
theorem ff__law_well (w0 : World0 G (A0 clsD K) nm P w K mg base) (hm : mg "_law_well" = some (.ref f)) (F : FunD K "_law_well" "_law_well" (defArgs (topS 25)) (defBody (topS 25)) (defScope (topS 25)) [] [] f fd) (ih : AllF G (A0 clsD K) nm P w K mg base 0) : FnFact G (A0 clsD K) P w K mg base 0 2 "_law_well" ["_law_script", "_law_at"] [(2, [])] := by
  refine ⟨f, fd, hm, F.kp, fn_good (T := nm) (k := 2) w0 rfl F sc__law_well rfl m__law_well meets_well (fun j nm ps shs hj e => ih.1 j nm ps shs hj e) (fun j nm e hj => ih.2 j nm e hj) (fun z => nomatch z), fun sh hs => ?_⟩
  simp only [List.mem_cons, List.not_mem_nil, or_false] at hs
  rcases hs with rfl
  · exact sh_plain F rfl rfl fun _ _ _ _ _ _ us hl => match us, hl with | [_, _], _ => rfl
theorem ff__law_draw (w0 : World0 G (A0 clsD K) nm P w K mg base) (hm : mg "_law_draw" = some (.ref f)) (F : FunD K "_law_draw" "_law_draw" (defArgs (topS 24)) (defBody (topS 24)) (defScope (topS 24)) [] [] f fd) (ih : AllF G (A0 clsD K) nm P w K mg base 0) : FnFact G (A0 clsD K) P w K mg base 0 3 "_law_draw" ["_law_well_here", "_law_much"] [(2, [])] := by
  refine ⟨f, fd, hm, F.kp, fn_good (T := nm) (k := 3) w0 rfl F sc__law_draw rfl m__law_draw meets_draw (fun j nm ps shs hj e => ih.1 j nm ps shs hj e) (fun j nm e hj => ih.2 j nm e hj) (fun z => nomatch z), fun sh hs => ?_⟩
  simp only [List.mem_cons, List.not_mem_nil, or_false] at hs
  rcases hs with rfl
  · exact sh_plain F rfl rfl fun _ _ _ _ _ _ us hl => match us, hl with | [_, _], _ => rfl
theorem ff__law_one (w0 : World0 G (A0 clsD K) nm P w K mg base) (hm : mg "_law_one" = some (.ref f)) (F : FunD K "_law_one" "_law_one" (defArgs (topS 26)) (defBody (topS 26)) (defScope (topS 26)) [] [] f fd) (ih : AllF G (A0 clsD K) nm P w K mg base 1) : FnFact G (A0 clsD K) P w K mg base 1 4 "_law_one" ["_law_well_here", "_law_some"] [(2, [])] := by
  refine ⟨f, fd, hm, F.kp, fn_good (T := nm) (k := 4) w0 rfl F sc__law_one rfl m__law_one meets_one (fun j nm ps shs hj e => ih.1 j nm ps shs hj e) (fun j nm e hj => ih.2 j nm e hj) (fun z => nomatch z), fun sh hs => ?_⟩
  simp only [List.mem_cons, List.not_mem_nil, or_false] at hs
  rcases hs with rfl
  · exact sh_plain F rfl rfl fun _ _ _ _ _ _ us hl => match us, hl with | [_, _], _ => rfl
theorem ff__law_odd_row (w0 : World0 G (A0 clsD K) nm P w K mg base) (hm : mg "_law_odd_row" = some (.ref f)) (F : FunD K "_law_odd_row" "_law_odd_row" (defArgs (topS 32)) (defBody (topS 32)) (defScope (topS 32)) [] [] f fd) (ih : AllF G (A0 clsD K) nm P w K mg base 2) : FnFact G (A0 clsD K) P w K mg base 2 5 "_law_odd_row" ["_law_well_here"] [(1, [])] := by
  refine ⟨f, fd, hm, F.kp, fn_good (T := nm) (k := 5) w0 rfl F sc__law_odd_row rfl m__law_odd_row meets_odd_row (fun j nm ps shs hj e => ih.1 j nm ps shs hj e) (fun j nm e hj => ih.2 j nm e hj) (fun z => nomatch z), fun sh hs => ?_⟩
  simp only [List.mem_cons, List.not_mem_nil, or_false] at hs
  rcases hs with rfl
  · exact sh_plain F rfl rfl fun _ _ _ _ _ _ us hl => match us, hl with | [_], _ => rfl
theorem ff__law_needs_read (w0 : World0 G (A0 clsD K) nm P w K mg base) (hm : mg "_law_needs_read" = some (.ref f)) (F : FunD K "_law_needs_read" "_law_needs_read" (defArgs (topS 29)) (defBody (topS 29)) (defScope (topS 29)) [] [] f fd) (ih : AllF G (A0 clsD K) nm P w K mg base 0) : FnFact G (A0 clsD K) P w K mg base 0 6 "_law_needs_read" ["_law_step"] [(1, [])] := by
  refine ⟨f, fd, hm, F.kp, fn_good (T := nm) (k := 6) w0 rfl F sc__law_needs_read rfl m__law_needs_read meets_needs_read2 (fun j nm ps shs hj e => ih.1 j nm ps shs hj e) (fun j nm e hj => ih.2 j nm e hj) (fun z => nomatch z), fun sh hs => ?_⟩
  simp only [List.mem_cons, List.not_mem_nil, or_false] at hs
  rcases hs with rfl
  · exact sh_plain F rfl rfl fun _ _ _ _ _ _ us hl => match us, hl with | [_], _ => rfl
theorem ff__law_needs_input (w0 : World0 G (A0 clsD K) nm P w K mg base) (hm : mg "_law_needs_input" = some (.ref f)) (F : FunD K "_law_needs_input" "_law_needs_input" (defArgs (topS 30)) (defBody (topS 30)) (defScope (topS 30)) [] [] f fd) (ih : AllF G (A0 clsD K) nm P w K mg base 0) : FnFact G (A0 clsD K) P w K mg base 0 7 "_law_needs_input" ["_law_step"] [(1, [])] := by
  refine ⟨f, fd, hm, F.kp, fn_good (T := nm) (k := 7) w0 rfl F sc__law_needs_input rfl m__law_needs_input meets_needs_input2 (fun j nm ps shs hj e => ih.1 j nm ps shs hj e) (fun j nm e hj => ih.2 j nm e hj) (fun z => nomatch z), fun sh hs => ?_⟩
  simp only [List.mem_cons, List.not_mem_nil, or_false] at hs
  rcases hs with rfl
  · exact sh_plain F rfl rfl fun _ _ _ _ _ _ us hl => match us, hl with | [_], _ => rfl
theorem ff_is_word (w0 : World0 G (A0 clsD K) nm P w K mg base) (hm : mg "is_word" = some (.ref f)) (F : FunD K "is_word" "is_word" (defArgs (topS 10)) (defBody (topS 10)) (defScope (topS 10)) [] [] f fd) (ih : AllF G (A0 clsD K) nm P w K mg base 0) : FnFact G (A0 clsD K) P w K mg base 0 8 "is_word" ["value", "words"] [(2, [])] := by
  refine ⟨f, fd, hm, F.kp, fn_good (T := nm) (k := 8) w0 rfl F sc_is_word rfl m_is_word meets_is_word (fun j nm ps shs hj e => ih.1 j nm ps shs hj e) (fun j nm e hj => ih.2 j nm e hj) (fun z => nomatch z), fun sh hs => ?_⟩
  simp only [List.mem_cons, List.not_mem_nil, or_false] at hs
  rcases hs with rfl
  · exact sh_plain F rfl rfl fun _ _ _ _ _ _ us hl => match us, hl with | [_, _], _ => rfl
theorem ff_is_words (w0 : World0 G (A0 clsD K) nm P w K mg base) (hm : mg "is_words" = some (.ref f)) (F : FunD K "is_words" "is_words" (defArgs (topS 11)) (defBody (topS 11)) (defScope (topS 11)) [] [] f fd) (ih : AllF G (A0 clsD K) nm P w K mg base 1) : FnFact G (A0 clsD K) P w K mg base 1 9 "is_words" ["value", "words"] [(2, [])] := by
  refine ⟨f, fd, hm, F.kp, fn_good (T := nm) (k := 9) w0 rfl F sc_is_words rfl m_is_words meets_is_words (fun j nm ps shs hj e => ih.1 j nm ps shs hj e) (fun j nm e hj => ih.2 j nm e hj) (fun z => nomatch z), fun sh hs => ?_⟩
  simp only [List.mem_cons, List.not_mem_nil, or_false] at hs
  rcases hs with rfl
  · exact sh_plain F rfl rfl fun _ _ _ _ _ _ us hl => match us, hl with | [_, _], _ => rfl
theorem ff_is_statement (w0 : World0 G (A0 clsD K) nm P w K mg base) (hm : mg "is_statement" = some (.ref f)) (F : FunD K "is_statement" "is_statement" (defArgs (topS 13)) (defBody (topS 13)) (defScope (topS 13)) [] [] f fd) (ih : AllF G (A0 clsD K) nm P w K mg base 2) : FnFact G (A0 clsD K) P w K mg base 2 10 "is_statement" ["value"] [(1, [])] := by
  refine ⟨f, fd, hm, F.kp, fn_good (T := nm) (k := 10) w0 rfl F sc_is_statement rfl m_is_statement meets_is_statement (fun j nm ps shs hj e => ih.1 j nm ps shs hj e) (fun j nm e hj => ih.2 j nm e hj) (fun z => nomatch z), fun sh hs => ?_⟩
  simp only [List.mem_cons, List.not_mem_nil, or_false] at hs
  rcases hs with rfl
  · exact sh_plain F rfl rfl fun _ _ _ _ _ _ us hl => match us, hl with | [_], _ => rfl
theorem ff_check_statement (w0 : World0 G (A0 clsD K) nm P w K mg base) (hm : mg "check_statement" = some (.ref f)) (F : FunD K "check_statement" "check_statement" (defArgs (topS 14)) (defBody (topS 14)) (defScope (topS 14)) [] [] f fd) (ih : AllF G (A0 clsD K) nm P w K mg base 3) : FnFact G (A0 clsD K) P w K mg base 3 11 "check_statement" ["value"] [(1, [])] := by
  refine ⟨f, fd, hm, F.kp, fn_good (T := nm) (k := 11) w0 rfl F sc_check_statement rfl m_check_statement meets_check_statement (fun j nm ps shs hj e => ih.1 j nm ps shs hj e) (fun j nm e hj => ih.2 j nm e hj) (fun z => nomatch z), fun sh hs => ?_⟩
  simp only [List.mem_cons, List.not_mem_nil, or_false] at hs
  rcases hs with rfl
  · exact sh_plain F rfl rfl fun _ _ _ _ _ _ us hl => match us, hl with | [_], _ => rfl
theorem ff_new_source (w0 : World0 G (A0 clsD K) nm P w K mg base) (hm : mg "new_source" = some (.ref f)) (F : FunD K "new_source" "new_source" (defArgs (topS 19)) (defBody (topS 19)) (defScope (topS 19)) [] [] f fd) (ih : AllF G (A0 clsD K) nm P w K mg base 0) : FnFact G (A0 clsD K) P w K mg base 0 12 "new_source" ["word", "row", "old", "seen"] [(4, [])] := by
  refine ⟨f, fd, hm, F.kp, fn_good (T := nm) (k := 12) w0 rfl F sc_new_source rfl m_new_source meets_new_source (fun j nm ps shs hj e => ih.1 j nm ps shs hj e) (fun j nm e hj => ih.2 j nm e hj) (fun z => nomatch z), fun sh hs => ?_⟩
  simp only [List.mem_cons, List.not_mem_nil, or_false] at hs
  rcases hs with rfl
  · exact sh_plain F rfl rfl fun _ _ _ _ _ _ us hl => match us, hl with | [_, _, _, _], _ => rfl
theorem ff_row_made (w0 : World0 G (A0 clsD K) nm P w K mg base) (hm : mg "row_made" = some (.ref f)) (F : FunD K "row_made" "row_made" (defArgs (topS 20)) (defBody (topS 20)) (defScope (topS 20)) [] [] f fd) (ih : AllF G (A0 clsD K) nm P w K mg base 1) : FnFact G (A0 clsD K) P w K mg base 1 13 "row_made" ["statement", "value", "seen"] [(3, [])] := by
  refine ⟨f, fd, hm, F.kp, fn_good (T := nm) (k := 13) w0 rfl F sc_row_made rfl m_row_made meets_row_made (fun j nm ps shs hj e => ih.1 j nm ps shs hj e) (fun j nm e hj => ih.2 j nm e hj) (fun z => nomatch z), fun sh hs => ?_⟩
  simp only [List.mem_cons, List.not_mem_nil, or_false] at hs
  rcases hs with rfl
  · exact sh_plain F rfl rfl fun _ _ _ _ _ _ us hl => match us, hl with | [_, _, _], _ => rfl
theorem ff_fails (w0 : World0 G (A0 clsD K) nm P w K mg base) (hm : mg "fails" = some (.ref f)) (F : FunD K "fails" "fails" (defArgs (topS 18)) (defBody (topS 18)) (defScope (topS 18)) [] [] f fd) (ih : AllF G (A0 clsD K) nm P w K mg base 0) : FnFact G (A0 clsD K) P w K mg base 0 14 "fails" ["check", "row", "seen"] [(3, [])] := by
  refine ⟨f, fd, hm, F.kp, fn_good (T := nm) (k := 14) w0 rfl F sc_fails rfl m_fails meets_fails (fun j nm ps shs hj e => ih.1 j nm ps shs hj e) (fun j nm e hj => ih.2 j nm e hj) (fun z => nomatch z), fun sh hs => ?_⟩
  simp only [List.mem_cons, List.not_mem_nil, or_false] at hs
  rcases hs with rfl
  · exact sh_plain F rfl rfl fun _ _ _ _ _ _ us hl => match us, hl with | [_, _, _], _ => rfl
theorem ff_checks_of (w0 : World0 G (A0 clsD K) nm P w K mg base) (hm : mg "checks_of" = some (.ref f)) (F : FunD K "checks_of" "checks_of" (defArgs (topS 15)) (defBody (topS 15)) (defScope (topS 15)) [] [] f fd) (ih : AllF G (A0 clsD K) nm P w K mg base 0) : FnFact G (A0 clsD K) P w K mg base 0 15 "checks_of" ["statement"] [(1, [])] := by
  refine ⟨f, fd, hm, F.kp, fn_good (T := nm) (k := 15) w0 rfl F sc_checks_of rfl m_checks_of meets_checks_of (fun j nm ps shs hj e => ih.1 j nm ps shs hj e) (fun j nm e hj => ih.2 j nm e hj) (fun z => nomatch z), fun sh hs => ?_⟩
  simp only [List.mem_cons, List.not_mem_nil, or_false] at hs
  rcases hs with rfl
  · exact sh_plain F rfl rfl fun _ _ _ _ _ _ us hl => match us, hl with | [_], _ => rfl
theorem ff_done_to (w0 : World0 G (A0 clsD K) nm P w K mg base) (hm : mg "done_to" = some (.ref f)) (F : FunD K "done_to" "done_to" (defArgs (topS 21)) (defBody (topS 21)) (defScope (topS 21)) [] [] f fd) (ih : AllF G (A0 clsD K) nm P w K mg base 2) : FnFact G (A0 clsD K) P w K mg base 2 16 "done_to" ["statement", "row", "value", "seen"] [(4, [])] := by
  refine ⟨f, fd, hm, F.kp, fn_good (T := nm) (k := 16) w0 rfl F sc_done_to rfl m_done_to meets_done_to (fun j nm ps shs hj e => ih.1 j nm ps shs hj e) (fun j nm e hj => ih.2 j nm e hj) (fun z => nomatch z), fun sh hs => ?_⟩
  simp only [List.mem_cons, List.not_mem_nil, or_false] at hs
  rcases hs with rfl
  · exact sh_plain F rfl rfl fun _ _ _ _ _ _ us hl => match us, hl with | [_, _, _, _], _ => rfl
theorem ff_needs_input (w0 : World0 G (A0 clsD K) nm P w K mg base) (hm : mg "needs_input" = some (.ref f)) (F : FunD K "needs_input" "needs_input" (defArgs (topS 17)) (defBody (topS 17)) (defScope (topS 17)) [] [] f fd) (ih : AllF G (A0 clsD K) nm P w K mg base 4) : FnFact G (A0 clsD K) P w K mg base 4 17 "needs_input" ["statement"] [(1, [])] := by
  refine ⟨f, fd, hm, F.kp, fn_good (T := nm) (k := 17) w0 rfl F sc_needs_input rfl m_needs_input meets_needs_input (fun j nm ps shs hj e => ih.1 j nm ps shs hj e) (fun j nm e hj => ih.2 j nm e hj) (fun z => nomatch z), fun sh hs => ?_⟩
  simp only [List.mem_cons, List.not_mem_nil, or_false] at hs
  rcases hs with rfl
  · exact sh_plain F rfl rfl fun _ _ _ _ _ _ us hl => match us, hl with | [_], _ => rfl
theorem ff_needs_read (w0 : World0 G (A0 clsD K) nm P w K mg base) (hm : mg "needs_read" = some (.ref f)) (F : FunD K "needs_read" "needs_read" (defArgs (topS 16)) (defBody (topS 16)) (defScope (topS 16)) [] [] f fd) (ih : AllF G (A0 clsD K) nm P w K mg base 4) : FnFact G (A0 clsD K) P w K mg base 4 18 "needs_read" ["statement"] [(1, [])] := by
  refine ⟨f, fd, hm, F.kp, fn_good (T := nm) (k := 18) w0 rfl F sc_needs_read rfl m_needs_read meets_needs_read (fun j nm ps shs hj e => ih.1 j nm ps shs hj e) (fun j nm e hj => ih.2 j nm e hj) (fun z => nomatch z), fun sh hs => ?_⟩
  simp only [List.mem_cons, List.not_mem_nil, or_false] at hs
  rcases hs with rfl
  · exact sh_plain F rfl rfl fun _ _ _ _ _ _ us hl => match us, hl with | [_], _ => rfl
theorem ff_is_int (w0 : World0 G (A0 clsD K) nm P w K mg base) (hm : mg "is_int" = some (.ref f)) (F : FunD K "is_int" "is_int" (defArgs (topS 9)) (defBody (topS 9)) (defScope (topS 9)) [] [] f fd) (ih : AllF G (A0 clsD K) nm P w K mg base 0) : FnFact G (A0 clsD K) P w K mg base 0 19 "is_int" ["value"] [(1, [])] := by
  refine ⟨f, fd, hm, F.kp, fn_good (T := nm) (k := 19) w0 rfl F sc_is_int rfl m_is_int meets_is_int (fun j nm ps shs hj e => ih.1 j nm ps shs hj e) (fun j nm e hj => ih.2 j nm e hj) (fun z => nomatch z), fun sh hs => ?_⟩
  simp only [List.mem_cons, List.not_mem_nil, or_false] at hs
  rcases hs with rfl
  · exact sh_plain F rfl rfl fun _ _ _ _ _ _ us hl => match us, hl with | [_], _ => rfl
theorem ff_is_row (w0 : World0 G (A0 clsD K) nm P w K mg base) (hm : mg "is_row" = some (.ref f)) (F : FunD K "is_row" "is_row" (defArgs (topS 12)) (defBody (topS 12)) (defScope (topS 12)) [] [] f fd) (ih : AllF G (A0 clsD K) nm P w K mg base 1) : FnFact G (A0 clsD K) P w K mg base 1 20 "is_row" ["value"] [(1, [])] := by
  refine ⟨f, fd, hm, F.kp, fn_good (T := nm) (k := 20) w0 rfl F sc_is_row rfl m_is_row meets_is_row (fun j nm ps shs hj e => ih.1 j nm ps shs hj e) (fun j nm e hj => ih.2 j nm e hj) (fun z => nomatch z), fun sh hs => ?_⟩
  simp only [List.mem_cons, List.not_mem_nil, or_false] at hs
  rcases hs with rfl
  · exact sh_plain F rfl rfl fun _ _ _ _ _ _ us hl => match us, hl with | [_], _ => rfl
theorem ff_applied (w0 : World0 G (A0 clsD K) nm P w K mg base) (hm : mg "applied" = some (.ref f)) (F : FunD K "applied" "applied" (defArgs (topS 22)) (defBody (topS 22)) (defScope (topS 22)) [V.non, V.non] [] f fd) (ih : AllF G (A0 clsD K) nm P w K mg base 5) : FnFact G (A0 clsD K) P w K mg base 5 21 "applied" ["statement", "row", "value", "seen"] [(4, []), (2, [])] := by
  refine ⟨f, fd, hm, F.kp, fn_good (T := nm) (k := 21) w0 rfl F sc_applied rfl m_applied meets_applied (fun j nm ps shs hj e => ih.1 j nm ps shs hj e) (fun j nm e hj => ih.2 j nm e hj) (fun z => nomatch z), fun sh hs => ?_⟩
  simp only [List.mem_cons, List.not_mem_nil, or_false] at hs
  rcases hs with rfl | rfl
  · exact sh_any (dds := [.non, .non]) F (by simp) rfl (fun g H => (.cons .non (.cons .non .nil))) rfl fun _ _ _ _ _ _ _ us its ws l1 l2 l3 => match us, its, ws, l1, l2, l3 with | [_, _, _, _], [_, _], [], _, _, _ => ⟨_, rfl, rfl⟩
  · exact sh_any (dds := [.non, .non]) F (by simp) rfl (fun g H => (.cons .non (.cons .non .nil))) rfl fun _ _ _ _ _ _ _ us its ws l1 l2 l3 => match us, its, ws, l1, l2, l3 with | [_, _], [_, _], [], _, _, _ => ⟨_, rfl, rfl⟩
theorem ff_law (w0 : World0 G (A0 clsD K) nm P w K mg base) (hm : mg "law" = some (.ref f)) (F : FunD K "law" "law" (defArgs (topS 33)) (defBody (topS 33)) (defScope (topS 33)) [] [] f fd) (ih : AllF G (A0 clsD K) nm P w K mg base 6) (tb : TbF K mg base f "law") : FnFact G (A0 clsD K) P w K mg base 6 22 "law" ["_law_script"] [] := by
  refine ⟨f, fd, hm, F.kp, fn_good (T := { nm with lm := true }) (k := 22) (world_lm w0) rfl F sc_law rfl m_law meets_law (fun j nm ps shs hj e => ih.1 j nm ps shs hj e) (fun j nm e hj => ih.2 j nm e hj) (fun _ => tb), fun sh hs => ?_⟩
  cases hs
theorem tf__law_said (w0 : World0 G (A0 clsD K) nm P w K mg base) (hm : mg "_law_said" = some (.ref f)) (F : FunD K "_law_said" "_law_said" (defArgs (topS 31)) (defBody (topS 31)) (defScope (topS 31)) [] [] f fd) (ih : AllF G (A0 clsD K) nm P w K mg base 0) : TkFact G (A0 clsD K) P w K mg base 0 23 "_law_said" :=
  tk_good (T := nm) (k := 23) w0 rfl F sc__law_said rfl (vis_of (by decide +kernel)) (by decide +kernel) m__law_said meets_said hm (fun _ _ _ _ _ _ us hl => match us, hl with | [_], _ => rfl) (fun j nm ps shs hj e => ih.1 j nm ps shs hj e)
end
theorem world {P : Program} {w : World} {K : PySem.W.Frag} {h base : Heap} {mg : Str → Option Value} (X : K.In h) (Gl : h.Ns mainGlobals mg) (c : He.SaysD fa fn K) (more : ex K = true) : World0 G (A0 clsD K) nm P w K mg base := by
  unfold ex at more
  simp only [Bool.and_eq_true, and_assoc] at more
  obtain ⟨_, hcl, t0, t1, t2, t3⟩ := more
  refine world0 (sub := subD) mono_G rfl hcl rfl (fun x hx => ?_) (fun _ => rfl) (fun _ _ => rfl) (fun x hx => ?_) (fun k x d e1 e2 => ?_) fun x hx => ?_
  · simp only [clsD, List.mem_cons, List.not_mem_nil, or_false] at hx
    rcases hx with rfl | rfl | rfl
    · exact (He.glo_ok X Gl (c.fact 35 (f := .glo "FillError") rfl))
    · exact (He.glo_ok X Gl (c.fact 36 (f := .glo "NoStatement") rfl))
    · exact (He.glo_ok X Gl (c.fact 37 (f := .glo "NoRow") rfl))
  · have hat := clsAll_at hcl x hx
    simp only [clsD, List.mem_cons, List.not_mem_nil, or_false] at hx
    rcases hx with rfl | rfl | rfl
    · exact mk0 hat.2
    · exact mk0 hat.2
    · obtain ⟨fd, F⟩ := c.def_ 24 (d := d_NoRow) rfl
      exact mk1 (self := "self") (p := "part") hat.2 hat.1 (clsAll_base hcl) (He.glo_ok X Gl (c.fact 35 (f := .glo "FillError") rfl)) F sc_NoRow (by decide +kernel) (by decide +kernel) (by decide +kernel) (by decide +kernel) (by decide +kernel) fun _ _ _ _ _ _ us hl => match us, hl with | [_, _], _ => rfl
  · match k with
    | 0 =>
      cases e1; cases e2
      exact ⟨_, .ref (He.ga K "CHECKS"), (He.glo_ok X Gl (c.fact 38 (f := .glo "CHECKS") rfl)), rfl, fun g H => .tup (He.tupB_ok t0 H) (.cons (.str "missing") (.cons (.str "same old") (.cons (.str "same new") .nil)))⟩
    | 1 =>
      cases e1; cases e2
      exact ⟨_, .ref (He.ga K "NEWS"), (He.glo_ok X Gl (c.fact 39 (f := .glo "NEWS") rfl)), rfl, fun g H => .tup (He.tupB_ok t1 H) (.cons (.str "keep") (.cons (.str "none") (.cons (.str "now") (.cons (.str "read") (.cons (.str "copy") .nil)))))⟩
    | 2 =>
      cases e1; cases e2
      exact ⟨_, .ref (He.ga K "OLDS"), (He.glo_ok X Gl (c.fact 40 (f := .glo "OLDS") rfl)), rfl, fun g H => .tup (He.tupB_ok t2 H) (.cons (.str "keep") (.cons (.str "input") (.cons (.str "read") .nil)))⟩
    | 3 =>
      cases e1; cases e2
      exact ⟨_, .ref (He.ga K "READS"), (He.glo_ok X Gl (c.fact 41 (f := .glo "READS") rfl)), rfl, fun g H => .tup (He.tupB_ok t3 H) (.cons (.str "read") (.cons (.str "copy") (.cons (.str "same old") (.cons (.str "same new") .nil))))⟩
    | k + 4 => cases e1
  · obtain ⟨i, hi⟩ := List.getElem?_of_mem hx
    refine He.free_ok X Gl (c.fact i (f := .free x) ?_)
    have hl : i < (bltNames.map He.Fa.free).length := by
      rw [List.length_map]
      exact (List.getElem?_eq_some_iff.mp hi).1
    unfold fa
    rw [List.getElem?_append_left hl, List.getElem?_map, hi]
    rfl
theorem all {P : Program} {w : World} {K : PySem.W.Frag} {h base : Heap} {mg : Str → Option Value} (X : K.In h) (Gl : h.Ns mainGlobals mg) (c : He.SaysD fa fn K) (more : ex K = true) (tbs : ∀ p ∈ tf.map (He.cT K), LamX.TabB base mg p.1 p.2) : AllF G (A0 clsD K) nm P w K mg base 7 := by
  have w0 := world (P := P) (w := w) (base := base) X Gl c more
  refine all_fns (m := 7) (fun k nm ps shs e hk ih => ?_) (fun k nm e hk ih => ?_) 7 (Nat.le_refl _)
  · match k with
    | 0 =>
      cases e
      obtain ⟨fd, F⟩ := c.def_ 0 (d := d__law_checks_all) rfl
      exact ff__law_checks_all w0 (He.glo_ok X Gl (c.fact 11 (f := .glo "_law_checks_all") rfl)) F ih
    | 1 =>
      cases e
      obtain ⟨fd, F⟩ := c.def_ 1 (d := d__law_statements) rfl
      exact ff__law_statements w0 (He.glo_ok X Gl (c.fact 12 (f := .glo "_law_statements") rfl)) F ih
    | 2 =>
      cases e
      obtain ⟨fd, F⟩ := c.def_ 2 (d := d__law_well) rfl
      exact ff__law_well w0 (He.glo_ok X Gl (c.fact 13 (f := .glo "_law_well") rfl)) F ih
    | 3 =>
      cases e
      obtain ⟨fd, F⟩ := c.def_ 3 (d := d__law_draw) rfl
      exact ff__law_draw w0 (He.glo_ok X Gl (c.fact 14 (f := .glo "_law_draw") rfl)) F ih
    | 4 =>
      cases e
      obtain ⟨fd, F⟩ := c.def_ 4 (d := d__law_one) rfl
      exact ff__law_one w0 (He.glo_ok X Gl (c.fact 15 (f := .glo "_law_one") rfl)) F ih
    | 5 =>
      cases e
      obtain ⟨fd, F⟩ := c.def_ 5 (d := d__law_odd_row) rfl
      exact ff__law_odd_row w0 (He.glo_ok X Gl (c.fact 16 (f := .glo "_law_odd_row") rfl)) F ih
    | 6 =>
      cases e
      obtain ⟨fd, F⟩ := c.def_ 6 (d := d__law_needs_read) rfl
      exact ff__law_needs_read w0 (He.glo_ok X Gl (c.fact 17 (f := .glo "_law_needs_read") rfl)) F ih
    | 7 =>
      cases e
      obtain ⟨fd, F⟩ := c.def_ 7 (d := d__law_needs_input) rfl
      exact ff__law_needs_input w0 (He.glo_ok X Gl (c.fact 18 (f := .glo "_law_needs_input") rfl)) F ih
    | 8 =>
      cases e
      obtain ⟨fd, F⟩ := c.def_ 8 (d := d_is_word) rfl
      exact ff_is_word w0 (He.glo_ok X Gl (c.fact 19 (f := .glo "is_word") rfl)) F ih
    | 9 =>
      cases e
      obtain ⟨fd, F⟩ := c.def_ 9 (d := d_is_words) rfl
      exact ff_is_words w0 (He.glo_ok X Gl (c.fact 20 (f := .glo "is_words") rfl)) F ih
    | 10 =>
      cases e
      obtain ⟨fd, F⟩ := c.def_ 10 (d := d_is_statement) rfl
      exact ff_is_statement w0 (He.glo_ok X Gl (c.fact 21 (f := .glo "is_statement") rfl)) F ih
    | 11 =>
      cases e
      obtain ⟨fd, F⟩ := c.def_ 11 (d := d_check_statement) rfl
      exact ff_check_statement w0 (He.glo_ok X Gl (c.fact 22 (f := .glo "check_statement") rfl)) F ih
    | 12 =>
      cases e
      obtain ⟨fd, F⟩ := c.def_ 12 (d := d_new_source) rfl
      exact ff_new_source w0 (He.glo_ok X Gl (c.fact 23 (f := .glo "new_source") rfl)) F ih
    | 13 =>
      cases e
      obtain ⟨fd, F⟩ := c.def_ 13 (d := d_row_made) rfl
      exact ff_row_made w0 (He.glo_ok X Gl (c.fact 24 (f := .glo "row_made") rfl)) F ih
    | 14 =>
      cases e
      obtain ⟨fd, F⟩ := c.def_ 14 (d := d_fails) rfl
      exact ff_fails w0 (He.glo_ok X Gl (c.fact 25 (f := .glo "fails") rfl)) F ih
    | 15 =>
      cases e
      obtain ⟨fd, F⟩ := c.def_ 15 (d := d_checks_of) rfl
      exact ff_checks_of w0 (He.glo_ok X Gl (c.fact 26 (f := .glo "checks_of") rfl)) F ih
    | 16 =>
      cases e
      obtain ⟨fd, F⟩ := c.def_ 16 (d := d_done_to) rfl
      exact ff_done_to w0 (He.glo_ok X Gl (c.fact 27 (f := .glo "done_to") rfl)) F ih
    | 17 =>
      cases e
      obtain ⟨fd, F⟩ := c.def_ 17 (d := d_needs_input) rfl
      exact ff_needs_input w0 (He.glo_ok X Gl (c.fact 28 (f := .glo "needs_input") rfl)) F ih
    | 18 =>
      cases e
      obtain ⟨fd, F⟩ := c.def_ 18 (d := d_needs_read) rfl
      exact ff_needs_read w0 (He.glo_ok X Gl (c.fact 29 (f := .glo "needs_read") rfl)) F ih
    | 19 =>
      cases e
      obtain ⟨fd, F⟩ := c.def_ 19 (d := d_is_int) rfl
      exact ff_is_int w0 (He.glo_ok X Gl (c.fact 30 (f := .glo "is_int") rfl)) F ih
    | 20 =>
      cases e
      obtain ⟨fd, F⟩ := c.def_ 20 (d := d_is_row) rfl
      exact ff_is_row w0 (He.glo_ok X Gl (c.fact 31 (f := .glo "is_row") rfl)) F ih
    | 21 =>
      cases e
      obtain ⟨fd, F⟩ := c.def_ 21 (d := d_applied) rfl
      exact ff_applied w0 (He.glo_ok X Gl (c.fact 32 (f := .glo "applied") rfl)) F ih
    | 22 =>
      cases e
      obtain ⟨fd, F⟩ := c.def_ 22 (d := d_law) rfl
      exact ff_law w0 (He.glo_ok X Gl (c.fact 33 (f := .glo "law") rfl)) F ih (TbF.mk ("law", none) rfl (tbs _ (by simp [tf])) (by simp [tau]) (tau_one "law" K))
    | k + 23 => cases e
  · have hm := lk_mem e
    have hm : (k, nm) ∈ [(23, ("_law_said" : Str))] := hm
    simp only [List.mem_cons, List.not_mem_nil, or_false, Prod.mk.injEq] at hm
    rcases hm with ⟨rfl, rfl⟩
    · obtain ⟨fd, F⟩ := c.def_ 23 (d := d__law_said) rfl
      exact tf__law_said w0 (He.glo_ok X Gl (c.fact 34 (f := .glo "_law_said") rfl)) F ih
theorem law_ok (ns : List Int) (hl : ns.length ≤ 63) : G.spec 22 [.lst (ns.map D.int)] (fun _ => none) (fun d _ => d = .bl true) (fun _ _ _ => False) := ⟨ns, rfl, by omega, fun _ => rfl⟩
end K03
open PySem PySem.W PySem.Calls PyProof.Rows
theorem PySem.Challenge.cw_fillbehind_k03_what_statements_refuse_holds : PySem.Challenge.rw_fillbehind_k03_what_statements_refuse.Holds := by
  w_on; o_law
  refine HandSHeadRun.head_any (r := OpenLaw.row PySem.Challenge.rw_fillbehind_k03_what_statements_refuse) (q := view (OpenLaw.row PySem.Challenge.rw_fillbehind_k03_what_statements_refuse).prog [33]) (H := K03.hk) (ob := K03.ob) (M := 8000) (loose := K03.names) (d := HandSHeadRun.topDef (OpenLaw.row PySem.Challenge.rw_fillbehind_k03_what_statements_refuse).prog 33) (kwd := []) K03.ob_eq
    (by kernel_rfl) (fun s => by kernel_rfl) K03.run (by kernel_rfl) (by kernel_rfl) (by kernel_rfl) (by rfl) (by first | assumption | decide +kernel) (by decide +kernel) ⟨rfl, rfl, rfl, rfl, rfl, by decide +kernel⟩ ?hw ?hc
  case hw => w_witness2
  case hc =>
    refine LamX.walk_ofTsE (l := PySem.Challenge.rw_fillbehind_k03_what_statements_refuse) (n := 63) (k := 27) (x := "_law_script") (CX := fun w => L2.CX (PySem.Challenge.rw_fillbehind_k03_what_statements_refuse).prog w) rfl (by decide) (by kernel_rfl) ⟨rfl, by decide, by decide⟩ ?F (fun w H s e s' z => Fb.cx_false H s e s' z)
    intro w mg fa h Y Gl hmg0
    obtain ⟨K, KX, c⟩ := Y
    have hmg : mg ("law" : PySem.Str) = some (.ref fa) := by
      have e : (HandSHeadRun.topDef (OpenLaw.row PySem.Challenge.rw_fillbehind_k03_what_statements_refuse).prog 33).name = ("law" : PySem.Str) := by kernel_rfl
      rw [← e]
      exact hmg0
    have e := hmg.symm.trans (He.glo_ok KX Gl (c.d.fact 33 (f := .glo "law") rfl))
    cases e
    have more := c.more
    obtain ⟨fd, F⟩ := c.d.def_ 22 (d := K03.d_law) rfl
    have b := L2.FunD.bindsA (ps := ["_law_script"]) F fun _ _ _ _ _ _ us hl => match us, hl with | [_], _ => rfl
    have hno : Fb.noLists K = true := by
      have z := more
      unfold K03.ex at z
      simp only [Bool.and_eq_true, and_assoc] at z
      exact z.1
    have htab : ∀ p ∈ K03.tf.map (He.cT K), PySem.W.codeHdIn K p.1 p.2 = true ∧ K.lookup p.2 = none ∧ h.get? p.2 = some { cls := .none, data := .fields #[] } := fun p hp => by
      obtain ⟨q, hq, rfl⟩ := List.mem_map.mp hp
      exact c.tabs q hq
    refine ⟨K, KX, fd, K03.tf.map (He.cT K), Fb.spD K03.G (Fb.A0 K03.clsD K) K 22, fun p hp => (htab p hp).2.2, fun p hp => (htab p hp).2.1, fun p hp => PySem.W.codeHd_of_K KX (htab p hp).1, fun s v => b s [v] rfl, fun H a ns hl _ hH hS => Fb.law_sp hno rfl hS (K03.law_ok ns hl) K03.mono_G (Fb.tabs_nil fun p hp => ?_), fun base _ _ TB => ?_⟩
    · simp only [Fb.tau, List.mem_cons, List.not_mem_nil, or_false] at hp
      first
        | exact hp.elim
        | (rcases hp with rfl; exact hH _ (by simp [K03.tf]))
    · have ih := K03.all (P := (PySem.Challenge.rw_fillbehind_k03_what_statements_refuse).prog) (w := w) (base := base) KX Gl c.d more TB
      exact Fb.fn_good (T := { K03.nm with lm := true }) (k := 22) (Fb.world_lm (K03.world (P := (PySem.Challenge.rw_fillbehind_k03_what_statements_refuse).prog) (w := w) (base := base) KX Gl c.d more)) rfl F K03.sc_law rfl K03.m_law K03.meets_law (fun j nm ps shs hj e => ih.1 j nm ps shs (Nat.lt_of_lt_of_le hj (by decide)) e) (fun j nm e hj => ih.2 j nm e (Nat.lt_of_lt_of_le hj (by decide))) (fun _ => Fb.TbF.mk ("law", none) rfl (TB _ (by simp [K03.tf])) (List.mem_singleton.mpr rfl) (Fb.tau_one "law" K))

