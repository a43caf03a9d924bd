import PyProof.Rows.All
import Wide.All
import OpenK.AllK
import Wide.FinOn
import HandS.ForMost
import HandS.Deep
import HandS.Conv
import HandS.TupLen
import HandS.Exc
import HandS.TryOnly
import HandS.ExcOwn
import HandS.StrMore
import HandS.More
import HandS.Codes
import HandS.IsInst
import HandS.ExcIs
import HandS.Style
import HandS.WordsDict
import HandS.WordsExc
import KE.SortData
import KE.KEqDict
import KE.LtData
import KE.KDictWalk
import HandS.SetFor
import KE.DataFind
import PySem.Challenge.RW_dealknot_k12_put_to_a_place
set_option Elab.async false
set_option linter.all false
set_option maxRecDepth 100000
/-! A small clean language: data, a store of objects, terms and commands, and what each of them does (weakest preconditions). -/
namespace Mp
open PySem

/-- data: texts are lists of signs, tuples are told whole (so is a list that is only read: lis); lists, dicts and instances are places of the store -/
inductive D where
  | non
  | bl (b : Bool)
  | int (i : Int)
  | str (s : List Nat)
  | tup (ds : List D)
  | lis (ds : List D)
  | ref (r : Nat)
  deriving Inhabited
mutual
def D.same : D → D → Bool
  | .non, .non => true
  | .bl a, .bl b => a == b
  | .int a, .int b => decide (a = b)
  | .str a, .str b => decide (a = b)
  | .ref a, .ref b => decide (a = b)
  | .tup a, .tup b => D.sames a b
  | .lis a, .lis b => D.sames a b
  | _, _ => false
def D.sames : List D → List D → Bool
  | [], [] => true
  | a :: r, b :: t => D.same a b && D.sames r t
  | _, _ => false
end
mutual
theorem D.same_eq : ∀ a b : D, D.same a b = true → a = b
  | .non, b, h => by cases b <;> simp_all [D.same]
  | .bl a, b, h => by cases b <;> simp_all [D.same]
  | .int a, b, h => by cases b <;> simp_all [D.same]
  | .str a, b, h => by cases b <;> simp_all [D.same]
  | .ref a, b, h => by cases b <;> simp_all [D.same]
  | .tup a, b, h => by
    cases b with
    | tup b => simp only [D.same] at h; rw [D.sames_eq a b h]
    | _ => simp [D.same] at h
  | .lis a, b, h => by
    cases b with
    | lis b => simp only [D.same] at h; rw [D.sames_eq a b h]
    | _ => simp [D.same] at h
theorem D.sames_eq : ∀ a b : List D, D.sames a b = true → a = b
  | [], [], _ => rfl
  | [], _ :: _, h => by simp [D.sames] at h
  | _ :: _, [], h => by simp [D.sames] at h
  | a :: r, b :: t, h => by
    simp only [D.sames, Bool.and_eq_true] at h
    rw [D.same_eq a b h.1, D.sames_eq r t h.2]
end
mutual
theorem D.same_refl : ∀ a : D, D.same a a = true
  | .non => by simp [D.same]
  | .bl a => by simp [D.same]
  | .int a => by simp [D.same]
  | .str a => by simp [D.same]
  | .ref a => by simp [D.same]
  | .tup a => by simp only [D.same]; exact D.sames_refl a
  | .lis a => by simp only [D.same]; exact D.sames_refl a
theorem D.sames_refl : ∀ a : List D, D.sames a a = true
  | [] => by simp [D.sames]
  | a :: r => by simp only [D.sames, Bool.and_eq_true]; exact ⟨D.same_refl a, D.sames_refl r⟩
end
instance : DecidableEq D := fun a b =>
  if h : D.same a b = true then .isTrue (D.same_eq a b h) else .isFalse fun e => h (e ▸ D.same_refl a)

/-- objects of the store: a list, a dict (keys tuples: t; being walked: lk), an instance -/
inductive Ob where
  | lst (ds : List D)
  | dic (t lk : Bool) (kvs : List (D × D))
  | ins (c : Nat) (fs : List (Nat × D))
  deriving Inhabited
abbrev Sto := List Ob
abbrev Env := List (Option D)
abbrev PQ := D → Sto → Prop
abbrev PX := Nat → Sto → Prop

/-- the items of a list -/
def seqOf : Ob → Option (List D)
  | .lst ds => some ds
  | _ => none
def lstAt (S : Sto) (r : Nat) : Option (List D) := (S[r]?).bind seqOf
/-- .. told whole, or at its place -/
def seqD (S : Sto) : D → Option (List D)
  | .lis ds => some ds
  | .ref r => lstAt S r
  | _ => none

def look (kvs : List (D × D)) (k : D) : Option D := (kvs.find? fun p => decide (p.1 = k)).map (·.2)
def put (kvs : List (D × D)) (k v : D) : List (D × D) :=
  if (kvs.any fun p => decide (p.1 = k)) = true then kvs.map fun p => if p.1 = k then (p.1, v) else p else kvs ++ [(k, v)]
def lookF (fs : List (Nat × D)) (f : Nat) : Option D := fs.lookup f
def putN (f : Nat) (v : D) : List (Nat × D) → List (Nat × D)
  | [] => [(f, v)]
  | (g, x) :: r => if g = f then (g, v) :: r else (g, x) :: putN f v r

/-- a key of a dict: a text or a number; a tuple of such -/
def key1 : D → Option L2.Key
  | .int i => some (.inl i)
  | .str s => some (.inr ⟨s.toArray⟩)
  | _ => none
def keyT : D → Option (List L2.Key)
  | .tup ds => ds.mapM key1
  | _ => none
def keyOk (t : Bool) (k : D) : Bool := if t then (keyT k).isSome else (key1 k).isSome

/-- what == compares: data without places -/
def pd (S : Sto) : Nat → D → Option PyData
  | 0, _ => none
  | _ + 1, .non => some .none
  | _ + 1, .bl b => some (.bool b)
  | _ + 1, .int i => some (.int i)
  | _ + 1, .str s => some (.str ⟨s.toArray⟩)
  | n + 1, .tup ds => (ds.mapM (pd S n)).map .tuple
  | n + 1, .lis ds => (ds.mapM (pd S n)).map .list
  | n + 1, .ref r => ((lstAt S r).bind fun ds => ds.mapM (pd S n)).map .list
def eqD (S : Sto) (a b : D) : Option Bool :=
  match pd S 12 a, pd S 12 b with
  | some p, some q => some (PyData.eqv p q)
  | _, _ => match a, b with
    | .ref r, .ref q => (match S[r]?, S[q]? with
      | some (.dic _ false kx), some (.dic _ false ky) => if kx = [] ∧ ky = [] then some true else none
      | _, _ => none)
    | _, _ => none
def inD (S : Sto) (d : D) (ds : List D) : Option Bool :=
  match pd S 12 d, ds.mapM (pd S 12) with
  | some p, some qs => some (qs.any fun z => PyData.eqv z p)
  | _, _ => none

inductive Ty where
  | non | bl | int | str | tup | lst | dct
  deriving DecidableEq
def Ty.name : Ty → String
  | .non => "NoneType" | .bl => "bool" | .int => "int" | .str => "str" | .tup => "tuple" | .lst => "list" | .dct => "dict"
def Ty.le (a b : Ty) : Bool := match a, b with
  | .non, .non => true | .bl, .bl => true | .bl, .int => true | .int, .int => true | .str, .str => true | .tup, .tup => true | .lst, .lst => true | .dct, .dct => true
  | _, _ => false
inductive Cl where
  | ty (t : Ty)
  | own (c : Nat)
  | valErr
  deriving DecidableEq

inductive Op where
  | add | sub | mul | fdiv | mod | pow | neg | bnot
  | eq | ne | lt | le | gt | ge
  | isN | notN
  | inn | nin
  | ix | cutB | cutL | cutH | revL
  | attr (f : Nat)
  | tup | lst | dnT | disp1
  | len | int | str1 | isi (cs : List Cl) | listOf | tupOf | min2 | sortedD
  | append | clear | get2 | index | insert | remove | join | partition | split | upper | zfill
  deriving DecidableEq

mutual
inductive Tm where
  | var (i : Nat)
  | cst (d : D)
  | glob (g : Nat)
  | op (o : Op) (es : Tms)
  | and (a b : Tm)
  | or (a b : Tm)
  | chain (o1 o2 : Op) (a b c : Tm)
  | call (f : Nat) (es : Tms)
  | make (c : Nat) (es : Tms)
  | meth (m : Nat) (a : Tm) (es : Tms)
  | bm (o : Op) (a : Tm) (es : Tms)
  | comp (e : Tm) (i : Nat) (src : Src)
  | compIf (e : Tm) (i : Nat) (src : Src) (t : Tm)
  | isE (cs : List Cl)
inductive Tms where
  | nil
  | cons (e : Tm) (r : Tms)
inductive Src where
  | seq (e : Tm)
  | rng1 (a : Tm)
  | rng3 (a b c : Tm)
end
mutual
inductive Cm where
  | asg (i : Nat) (e : Tm)
  | asgT (is : List Nat) (e : Tm)
  | setX (o i e : Tm)
  | setA (o : Tm) (f : Nat) (e : Tm)
  | ex (e : Tm)
  | ret (e : Tm)
  | retN
  | pass
  | brk
  | cont
  | ite (t : Tm) (a b : Cms)
  | whil (t : Tm) (b : Cms)
  | for1 (i : Nat) (src : Src) (b : Cms)
  | forT (is : List Nat) (src : Src) (b : Cms)
  | forV (i v : Nat) (b : Cms)
  | forI (i j v : Nat) (b : Cms)
  | rais (c : Nat)
  | tryC (b : Cm) (c ie : Nat) (hd : Cms)
inductive Cms where
  | nil
  | cons (s : Cm) (r : Cms)
end

/-- what the text's top says: constants, classes -/
structure Tab where
  con : Nat → Option D
  ini : Nat → Option Nat
  met : Nat → Nat → Option Nat
  sub : Nat → Nat → Bool
  exc : Nat → Bool

/-- a value's own class: a built-in, or one of the text's -/
def tyD (S : Sto) : D → Option (Ty ⊕ Nat)
  | .non => some (.inl .non)
  | .bl _ => some (.inl .bl)
  | .int _ => some (.inl .int)
  | .str _ => some (.inl .str)
  | .tup _ => some (.inl .tup)
  | .lis _ => none
  | .ref r => (match S[r]? with
    | some (.lst _) => some (.inl .lst)
    | some (.dic _ false _) => some (.inl .dct)
    | some (.ins k _) => some (.inr k)
    | _ => none)
def clsT (T : Tab) : Ty ⊕ Nat → Cl → Option Bool
  | .inl t, .ty n => some (t.le n)
  | .inr k, .own j => some (T.sub k j)
  | _, _ => none
def clsOf (T : Tab) (S : Sto) (d : D) (c : Cl) : Option Bool := (tyD S d).bind fun t => clsT T t c
def excIs (T : Tab) (k : Nat) : Cl → Bool
  | .own j => T.sub k j
  | .valErr => true
  | _ => false
end Mp
namespace Mp
open PySem

abbrev LIM : Nat := 16777216
abbrev OpF := List D → Sto → Option (D × Sto)

def oAdd : OpF
  | [.int i, .int j], S => some (.int (i + j), S)
  | [.str a, .str b], S => if a.length + b.length ≤ LIM then some (.str (a ++ b), S) else none
  | [.ref r, .ref q], S => (match S[r]?, S[q]? with
    | some (.lst a), some (.lst b) => if a.length + b.length ≤ LIM then some (.ref S.length, S ++ [.lst (a ++ b)]) else none
    | _, _ => none)
  | _, _ => none
def oSub : OpF
  | [.int i, .int j], S => some (.int (i - j), S)
  | _, _ => none
def oMul : OpF
  | [.int i, .int j], S => if i.natAbs < 2 ^ 64 ∨ j.natAbs < 2 ^ 64 then some (.int (i * j), S) else none
  | [.str a, .int k], S => if k.natAbs < 2 ^ 62 ∧ a.length * k.toNat ≤ LIM then some (.str (List.replicate k.toNat a).flatten, S) else none
  | _, _ => none
def oDiv : OpF
  | [.int i, .int j], S => if 0 < j ∧ j < 1073741824 then some (.int (i / j), S) else none
  | _, _ => none
def oMod : OpF
  | [.int i, .int j], S => if 0 < j then some (.int (i % j), S) else none
  | _, _ => none
def oPow : OpF
  | [.int i, .int j], S => if 0 ≤ j ∧ j ≤ 1000000 ∧ i.natAbs < 2 ^ 64 then some (.int (i ^ j.toNat), S) else none
  | _, _ => none
def oNeg : OpF
  | [.int i], S => some (.int (-i), S)
  | _, _ => none
def oNot : OpF
  | [.bl b], S => some (.bl (!b), S)
  | _, _ => none
def oEq : OpF
  | [a, b], S => (eqD S a b).map fun k => (.bl k, S)
  | _, _ => none
def oNe : OpF
  | [a, b], S => (eqD S a b).map fun k => (.bl (!k), S)
  | _, _ => none
def oCmp (p : Int → Int → Bool) : OpF
  | [.int i, .int j], S => some (.bl (p i j), S)
  | _, _ => none
/-- the texts of a tuple of texts -/
def strsOf : D → Option (List (List Nat))
  | .tup ds => ds.mapM fun d => match d with
    | .str s => some s
    | _ => none
  | _ => none
def lexL : List (List Nat) → List (List Nat) → Bool
  | [], [] => false
  | [], _ :: _ => true
  | _ :: _, [] => false
  | a :: r, b :: t => if a = b then lexL r t else decide (a < b)
def oLtT : OpF
  | [a, b], S => (match strsOf a, strsOf b with
    | some p, some q => some (.bl (lexL p q), S)
    | _, _ => none)
  | _, _ => none
def oIsN : OpF
  | [d], S => some (.bl (decide (d = .non)), S)
  | _, _ => none
def oNotN : OpF
  | [d], S => some (.bl (!decide (d = .non)), S)
  | _, _ => none
def oInStr (neg : Bool) : OpF
  | [.str [c], .str s], S => some (.bl (if neg then !decide (c ∈ s) else decide (c ∈ s)), S)
  | _, _ => none
def oInSeq (neg : Bool) : OpF
  | [d, x], S => (match seqD S x with
    | some ds => (inD S d ds).map fun k => (.bl (if neg then !k else k), S)
    | none => none)
  | _, _ => none
def oInDic (neg : Bool) : OpF
  | [k, .ref r], S => (match S[r]? with
    | some (.dic t _ kvs) => if keyOk t k then some (.bl (if neg then !(look kvs k).isSome else (look kvs k).isSome), S) else none
    | _ => none)
  | _, _ => none
def oIx : OpF
  | [.str s, .int i], S => if s.length ≤ LIM then (L2.atI s i).map fun c => (.str [c], S) else none
  | [.tup ds, .int i], S => (L2.atI ds i).map fun d => (d, S)
  | [x, .int i], S => (match seqD S x with
    | some ds => (L2.atI ds i).map fun d => (d, S)
    | none => none)
  | _, _ => none
def oIxD : OpF
  | [.ref r, k], S => (match S[r]? with
    | some (.dic t _ kvs) => if keyOk t k then (look kvs k).map fun d => (d, S) else none
    | _ => none)
  | _, _ => none
/-- a slice: of a text, of a list (a new one), of a tuple (never the whole) -/
def cutF (lo hi : Nat → Nat) : D → Sto → Option (D × Sto)
  | .str s, S => if s.length ≤ LIM then some (.str ((s.drop (lo s.length)).take (hi s.length - lo s.length)), S) else none
  | .tup ds, S => if ((ds.drop (lo ds.length)).take (hi ds.length - lo ds.length)).length < ds.length then some (.tup ((ds.drop (lo ds.length)).take (hi ds.length - lo ds.length)), S) else none
  | x, S => (match seqD S x with
    | some ds => some (.ref S.length, S ++ [.lst ((ds.drop (lo ds.length)).take (hi ds.length - lo ds.length))])
    | none => none)
def clip (i : Int) (n : Nat) : Nat := min i.toNat n
def oCutB : OpF
  | [d, .int i, .int j], S => if 0 ≤ i ∧ 0 ≤ j then cutF (clip i) (clip j) d S else none
  | _, _ => none
def oCutL : OpF
  | [d, .int i], S => if 0 ≤ i then cutF (clip i) id d S else none
  | _, _ => none
def oCutH : OpF
  | [d, .int j], S => if 0 ≤ j then cutF (fun _ => 0) (clip j) d S else none
  | _, _ => none
def oRevL : OpF
  | [x], S => (match seqD S x with
    | some ds => some (.ref S.length, S ++ [.lst ds.reverse])
    | none => none)
  | _, _ => none
def oAttr (f : Nat) : OpF
  | [.ref r], S => (match S[r]? with
    | some (.ins _ fs) => (lookF fs f).map fun d => (d, S)
    | _ => none)
  | _, _ => none
def oTup : OpF := fun ds S => if ds.length ≤ LIM then some (.tup ds, S) else none
def oLst : OpF := fun ds S => if ds.length ≤ LIM then some (.ref S.length, S ++ [.lst ds]) else none
def oNew (t : Bool) : OpF
  | [], S => some (.ref S.length, S ++ [.dic t false []])
  | _, _ => none
def oDisp : OpF
  | [k, v], S => if (key1 k).isSome then some (.ref S.length, S ++ [.dic false false [(k, v)]]) else none
  | _, _ => none
def oLen : OpF
  | [.str s], S => if s.length ≤ LIM then some (.int s.length, S) else none
  | [.tup ds], S => some (.int ds.length, S)
  | [x], S => (seqD S x).map fun ds => (.int ds.length, S)
  | _, _ => none
def oLenD : OpF
  | [.ref r], S => (match S[r]? with
    | some (.dic _ false kvs) => some (.int kvs.length, S)
    | _ => none)
  | _, _ => none
def oInt1 : OpF
  | [.int i], S => some (.int i, S)
  | [.bl b], S => some (.int (if b then 1 else 0), S)
  | _, _ => none
def oIntS : OpF
  | [.str s], S => if s.length ≤ 640 then (PySem.intText? ⟨s.toArray⟩).map fun n => (.int n, S) else none
  | _, _ => none
def oStr1 : OpF
  | [.int i], S => if 0 ≤ i ∧ i.natAbs.log2 < 1920 then some (.str (TL.numL i.toNat), S) else none
  | _, _ => none
def oIsi (T : Tab) (cs : List Cl) : OpF
  | [d], S => (match cs with
    | [c] => (clsOf T S d c).map fun k => (.bl k, S)
    | _ => none)
  | _, _ => none
def oListOf : OpF
  | [.tup ds], S => some (.ref S.length, S ++ [.lst ds])
  | [x], S => (match seqD S x with
    | some ds => some (.ref S.length, S ++ [.lst ds])
    | none => none)
  | _, _ => none
def oListOfD : OpF
  | [.ref r], S => (match S[r]? with
    | some (.dic true false kvs) => some (.ref S.length, S ++ [.lst (kvs.map (·.1))])
    | _ => none)
  | _, _ => none
def oTupOf : OpF
  | [.tup ds], S => some (.tup ds, S)
  | [x], S => (seqD S x).map fun ds => (.tup ds, S)
  | _, _ => none
def oMin2 : OpF
  | [.int i, .int j], S => some (.int (if j < i then j else i), S)
  | _, _ => none
def leK (a b : List (List Nat)) : Bool := !lexL b a
/-- sorted(d): the keys are tuples of texts, of one length, not empty -/
def oSortedD : OpF
  | [.ref r], S => (match S[r]? with
    | some (.dic true false kvs) => (match (kvs.map (·.1)).mapM strsOf with
      | some ks => if ks.all (fun k => k.length = 2) then some (.ref S.length, S ++ [.lst ((ks.mergeSort leK).map fun k => .tup (k.map .str))]) else none
      | none => none)
    | _ => none)
  | _, _ => none
def oAppend : OpF
  | [.ref r, d], S => (match S[r]? with
    | some (.lst ds) => if ds.length < LIM then some (.non, S.set r (.lst (ds ++ [d]))) else none
    | _ => none)
  | _, _ => none
def oClear : OpF
  | [.ref r], S => (match S[r]? with
    | some (.lst _) => some (.non, S.set r (.lst []))
    | _ => none)
  | _, _ => none
def oGet2 : OpF
  | [.ref r, k, x], S => (match S[r]? with
    | some (.dic t _ kvs) => if keyOk t k then some ((look kvs k).getD x, S) else none
    | _ => none)
  | _, _ => none
/-- the first place of an equal item -/
def placeD (S : Sto) (d : D) (ds : List D) : Option Nat :=
  match pd S 12 d, ds.mapM (pd S 12) with
  | some p, some qs => (let j := qs.findIdx fun z => PyData.eqv z p
    if j < qs.length then some j else none)
  | _, _ => none
def oIndex : OpF
  | [x, d], S => (match seqD S x with
    | some ds => (placeD S d ds).map fun j => (.int (j : Nat), S)
    | none => none)
  | _, _ => none
def oIndexS : OpF
  | [.str s, .str [c]], S => if c ∈ s then some (.int (s.idxOf c : Nat), S) else none
  | _, _ => none
def oInsert : OpF
  | [.ref r, .int i, d], S => (match S[r]? with
    | some (.lst ds) => if ds.length < LIM ∧ 0 ≤ i ∧ i.toNat ≤ ds.length then some (.non, S.set r (.lst (ds.take i.toNat ++ d :: ds.drop i.toNat))) else none
    | _ => none)
  | _, _ => none
def oRemove : OpF
  | [.ref r, .str x], S => (match S[r]? with
    | some (.lst ds) => (match ds.mapM (fun d => match d with
        | .str s => some s
        | _ => none) with
      | some ss => if x ∈ ss then some (.non, S.set r (.lst ((ss.erase x).map .str))) else none
      | none => none)
    | _ => none)
  | _, _ => none
def txts (ds : List D) : Option (List (List Nat)) := ds.mapM fun d => match d with
  | .str s => some s
  | _ => none
def joinF (sep : List Nat) (ds : List D) (S : Sto) : Option (D × Sto) :=
  match txts ds with
  | some ps => if (ps.map (·.length)).sum + ps.length * sep.length ≤ LIM then some (.str (TL.joinL sep ps), S) else none
  | none => none
def oJoin : OpF
  | [.str sep, .tup ds], S => joinF sep ds S
  | [.str sep, x], S => (match seqD S x with
    | some ds => joinF sep ds S
    | none => none)
  | _, _ => none
def small256 (s : List Nat) : Bool := s.all (· < 256)
def oPartition : OpF
  | [.str a, .str b], S => if b ≠ [] ∧ small256 b = true ∧ a.length ≤ LIM then (match TL.par b [] a with
    | some (x, y) => some (.tup [.str x, .str b, .str y], S)
    | none => some (.tup [.str a, .str [], .str []], S)) else none
  | _, _ => none
def oSplit : OpF
  | [.str a, .str b], S => if b ≠ [] ∧ small256 b = true ∧ a.length + 2 ≤ LIM then
      some (.ref S.length, S ++ [.lst ((TL.spl b 0 [] a).map .str)]) else none
  | _, _ => none
def upC (c : Nat) : Nat := if 97 ≤ c ∧ c ≤ 122 then c - 32 else c
def oUpper : OpF
  | [.str a], S => if a.all (· < 128) ∧ a.length ≤ 5592405 then some (.str (a.map upC), S) else none
  | _, _ => none
def oZfill : OpF
  | [.str a, .int k], S => if 0 ≤ k ∧ k ≤ 1000 ∧ a ≠ [] ∧ a.all (fun c => 48 ≤ c ∧ c ≤ 57) then some (.str (List.replicate (k.toNat - a.length) 48 ++ a), S) else none
  | _, _ => none

def orF (f g : OpF) : OpF := fun ds S => match f ds S with
  | some r => some r
  | none => g ds S
def opF (T : Tab) : Op → OpF
  | .add => oAdd | .sub => oSub | .mul => oMul | .fdiv => oDiv | .mod => oMod | .pow => oPow | .neg => oNeg | .bnot => oNot
  | .eq => oEq | .ne => oNe
  | .lt => orF (oCmp fun i j => decide (i < j)) oLtT
  | .le => oCmp fun i j => decide (i ≤ j)
  | .gt => oCmp fun i j => decide (j < i)
  | .ge => oCmp fun i j => decide (j ≤ i)
  | .isN => oIsN | .notN => oNotN
  | .inn => orF (oInStr false) (orF (oInSeq false) (oInDic false))
  | .nin => orF (oInStr true) (orF (oInSeq true) (oInDic true))
  | .ix => orF oIx oIxD | .cutB => oCutB | .cutL => oCutL | .cutH => oCutH | .revL => oRevL
  | .attr f => oAttr f
  | .tup => oTup | .lst => oLst | .dnT => oNew true | .disp1 => oDisp
  | .len => orF oLen oLenD | .int => orF oInt1 oIntS | .str1 => oStr1 | .isi cs => oIsi T cs
  | .listOf => orF oListOf oListOfD | .tupOf => oTupOf | .min2 => oMin2 | .sortedD => oSortedD
  | .append => oAppend | .clear => oClear | .get2 => oGet2 | .index => oIndex | .insert => oInsert | .remove => oRemove
  | .join => oJoin | .partition => oPartition | .split => oSplit | .upper => oUpper | .zfill => oZfill
def opD (T : Tab) (o : Op) (ds : List D) (S : Sto) (Q : PQ) : Prop :=
  match opF T o ds S with
  | some (d, S') => Q d S'
  | none => False
theorem opD_mono {T : Tab} {o : Op} {ds : List D} {S : Sto} {Q Q' : PQ} (h : opD T o ds S Q) (hQ : ∀ d S', Q d S' → Q' d S') : opD T o ds S Q' := by
  unfold opD at h ⊢
  cases e : opF T o ds S with
  | none => rw [e] at h; exact h.elim
  | some p => rw [e] at h; exact hQ _ _ h

/-- what the receiver of a built-in method must be, ahead of the arguments -/
def tyOk (o : Op) (S : Sto) (x : D) : Bool := match o with
  | .append | .clear | .insert | .remove => (match x with
    | .ref r => (lstAt S r).isSome
    | _ => false)
  | .index => (seqD S x).isSome
  | .get2 => (match x with
    | .ref r => (match S[r]? with
      | some (.dic _ _ _) => true
      | _ => false)
    | _ => false)
  | .join | .partition | .split | .upper | .zfill => (match x with
    | .str _ => true
    | _ => false)
  | _ => false

/-! ### what terms and commands do -/
abbrev Calls := Nat → List D → Sto → PQ → PX → Prop
/-- what is walked: the items, and what must stand at each turn -/
structure Wk where
  items : List D
  stand : Sto → Prop
/-- what is walked without a lock: a list at its place (it must stand), a tuple, a text -/
def wkOf (S : Sto) : D → Option Wk
  | .tup ds => some ⟨ds, fun _ => True⟩
  | .str s => some ⟨s.map fun c => .str [c], fun _ => True⟩
  | x => (seqD S x).map fun ds => ⟨ds, fun S' => seqD S' x = some ds⟩
def rngItems (i c : Int) (n : Nat) : List D := (List.range n).map fun k => .int (i + (k : Nat) * c)
/-- the number of turns of range(i, j, c), c above 0 -/
def rngN (i j c : Int) : Nat := ((j - i + c - 1) / c).toNat

/-- a comprehension's turns; the new list stands at r -/
def compN (r : Nat) (stand : Sto → Prop) (turn : D → Sto → (Option D → Sto → Prop) → Prop) (k : Sto → Prop) : List D → List D → Sto → Prop
  | [], acc, S => stand S ∧ S[r]? = some (.lst acc) ∧ k S
  | x :: xs, acc, S => stand S ∧ S[r]? = some (.lst acc) ∧ turn x S fun o S' => match o with
    | some d => S'[r]? = some (.lst acc) ∧ acc.length < LIM ∧ compN r stand turn k xs (acc ++ [d]) (S'.set r (.lst (acc ++ [d])))
    | none => compN r stand turn k xs acc S'

structure Kt where
  nx : Env → Sto → Prop
  rt : PQ
  bk : Env → Sto → Prop
  ct : Env → Sto → Prop

/-- behind a walk over the locked dict at r -/
def lkK (r : Nat) (t : Bool) (kvs : List (D × D)) (K : Kt) : Kt where
  nx := fun ρ S => S[r]? = some (.dic t true kvs) ∧ K.nx ρ (S.set r (.dic t false kvs))
  rt := fun d S => S[r]? = some (.dic t true kvs) ∧ K.rt d (S.set r (.dic t false kvs))
  bk := fun ρ S => S[r]? = some (.dic t true kvs) ∧ K.bk ρ (S.set r (.dic t false kvs))
  ct := fun ρ S => S[r]? = some (.dic t true kvs) ∧ K.ct ρ (S.set r (.dic t false kvs))
/-- behind an except suite its name is gone -/
def hdK (ie : Nat) (K : Kt) : Kt where
  nx := fun ρ S => K.nx (ρ.set ie none) S
  rt := K.rt
  bk := fun ρ S => K.bk (ρ.set ie none) S
  ct := fun ρ S => K.ct (ρ.set ie none) S
def whN (wt : Env → Sto → (Bool → Sto → Prop) → Prop) (wb : Env → Sto → Kt → Prop) (K : Kt) : Nat → Env → Sto → Prop
  | 0, _, _ => False
  | n + 1, ρ, S => wt ρ S fun b S1 => if b = true then wb ρ S1 { nx := whN wt wb K n, rt := K.rt, bk := K.nx, ct := whN wt wb K n } else K.nx ρ S1
def foN (asg : D → Env → Option Env) (stand : Sto → Prop) (wb : Env → Sto → Kt → Prop) (K : Kt) : List D → Env → Sto → Prop
  | [], ρ, S => stand S ∧ K.nx ρ S
  | x :: xs, ρ, S => stand S ∧ match asg x ρ with
    | some ρ' => wb ρ' S { nx := foN asg stand wb K xs, rt := K.rt, bk := K.nx, ct := foN asg stand wb K xs }
    | none => False
def asg1 (i : Nat) (x : D) (ρ : Env) : Option Env := some (ρ.set i (some x))
def asgs : List Nat → List D → Env → Option Env
  | [], [], ρ => some ρ
  | i :: is, d :: ds, ρ => asgs is ds (ρ.set i (some d))
  | _, _, _ => none
def asgT (is : List Nat) (x : D) (ρ : Env) : Option Env :=
  match x with
  | .tup ds => asgs is ds ρ
  | _ => none

section
variable (T : Tab) (C : Calls)
def clsE (hx : Option Nat) (cs : List Cl) : Option Bool := match hx with
  | some k => some (cs.any (excIs T k))
  | none => none
mutual
def wpE (hx : Option Nat) : Tm → Env → Sto → PQ → PX → Prop
  | .var i, ρ, S, Q, _ => match ρ[i]? with
    | some (some d) => Q d S
    | _ => False
  | .cst d, _, S, Q, _ => Q d S
  | .glob g, _, S, Q, _ => match T.con g with
    | some d => Q d S
    | none => False
  | .op o es, ρ, S, Q, EX => wpEs hx es ρ S (fun ds S1 => opD T o ds S1 Q) EX
  | .and a b, ρ, S, Q, EX => wpE hx a ρ S (fun d S1 => match d with
    | .bl true => wpE hx b ρ S1 Q EX
    | .bl false => Q (.bl false) S1
    | _ => False) EX
  | .or a b, ρ, S, Q, EX => wpE hx a ρ S (fun d S1 => match d with
    | .bl true => Q (.bl true) S1
    | .bl false => wpE hx b ρ S1 Q EX
    | _ => False) EX
  | .chain o1 o2 a b c, ρ, S, Q, EX => wpE hx a ρ S (fun x S1 => wpE hx b ρ S1 (fun y S2 => opD T o1 [x, y] S2 fun z S3 => match z with
    | .bl true => wpE hx c ρ S3 (fun v S4 => opD T o2 [y, v] S4 Q) EX
    | .bl false => Q (.bl false) S3
    | _ => False) EX) EX
  | .call f es, ρ, S, Q, EX => wpEs hx es ρ S (fun ds S1 => C f ds S1 Q EX) EX
  | .make c es, ρ, S, Q, EX => wpEs hx es ρ S (fun ds S1 => match T.ini c with
    | some f => C f (.ref S1.length :: ds) (S1 ++ [.ins c []]) (fun v S2 => v = .non ∧ Q (.ref S1.length) S2) fun _ _ => False
    | none => ds = [] ∧ Q (.ref S1.length) (S1 ++ [.ins c []])) EX
  | .meth m a es, ρ, S, Q, EX => wpE hx a ρ S (fun x S1 => match x with
    | .ref r => (match S1[r]? with
      | some (.ins c fs) => (match T.met c m with
        | some f => lookF fs m = none ∧ wpEs hx es ρ S1 (fun ds S2 => C f (.ref r :: ds) S2 Q fun _ _ => False) EX
        | none => False)
      | _ => False)
    | _ => False) EX
  | .bm o a es, ρ, S, Q, EX => wpE hx a ρ S (fun x S1 => tyOk o S1 x = true ∧ wpEs hx es ρ S1 (fun ds S2 => opD T o (x :: ds) S2 Q) EX) EX
  | .comp e i src, ρ, S, Q, EX => wpI hx src ρ S (fun w S1 => compN S1.length w.stand
      (fun x S2 k => wpE hx e (ρ.set i (some x)) S2 (fun d S3 => k (some d) S3) fun _ _ => False)
      (fun S2 => Q (.ref S1.length) S2) w.items [] (S1 ++ [.lst []])) EX
  | .compIf e i src t, ρ, S, Q, EX => wpI hx src ρ S (fun w S1 => compN S1.length w.stand
      (fun x S2 k => wpE hx t (ρ.set i (some x)) S2 (fun z S3 => match z with
        | .bl true => wpE hx e (ρ.set i (some x)) S3 (fun d S4 => k (some d) S4) fun _ _ => False
        | .bl false => k none S3
        | _ => False) fun _ _ => False)
      (fun S2 => Q (.ref S1.length) S2) w.items [] (S1 ++ [.lst []])) EX
  | .isE cs, _, S, Q, _ => match clsE T hx cs with
    | some b => Q (.bl b) S
    | none => False
def wpEs (hx : Option Nat) : Tms → Env → Sto → (List D → Sto → Prop) → PX → Prop
  | .nil, _, S, Q, _ => Q [] S
  | .cons e r, ρ, S, Q, EX => wpE hx e ρ S (fun d S1 => wpEs hx r ρ S1 (fun ds S2 => Q (d :: ds) S2) EX) EX
def wpI (hx : Option Nat) : Src → Env → Sto → (Wk → Sto → Prop) → PX → Prop
  | .seq e, ρ, S, Q, EX => wpE hx e ρ S (fun x S1 => match wkOf S1 x with
    | some w => Q w S1
    | none => False) EX
  | .rng1 a, ρ, S, Q, EX => wpE hx a ρ S (fun x S1 => match x with
    | .int j => -(2 ^ 62) ≤ j ∧ j < 2 ^ 62 ∧ Q ⟨rngItems 0 1 j.toNat, fun _ => True⟩ S1
    | _ => False) EX
  | .rng3 a b c, ρ, S, Q, EX => wpE hx a ρ S (fun x S1 => wpE hx b ρ S1 (fun y S2 => wpE hx c ρ S2 (fun z S3 => match x, y, z with
    | .int i, .int j, .int c => (-(2 ^ 60) ≤ i ∧ i < 2 ^ 60 ∧ -(2 ^ 60) ≤ j ∧ j < 2 ^ 60 ∧ 0 < c ∧ c < 1073741824) ∧ Q ⟨rngItems i c (rngN i j c), fun _ => True⟩ S3
    | _, _, _ => False) EX) EX) EX
end
/-- x[y] = v -/
def setW (x y v : D) (S : Sto) (Q : Sto → Prop) : Prop := match x with
  | .ref r => (match S[r]? with
    | some (.lst ds) => (match y with
      | .int k => (match L2.ixN ds.length k with
        | some j => Q (S.set r (.lst (ds.set j v)))
        | none => False)
      | _ => False)
    | some (.dic t false kvs) => keyOk t y = true ∧ kvs.length < LIM ∧ Q (S.set r (.dic t false (put kvs y v)))
    | _ => False)
  | _ => False
theorem setW_mono {x y v : D} {S : Sto} {Q Q' : Sto → Prop} (hQ : ∀ S', Q S' → Q' S') (h : setW x y v S Q) : setW x y v S Q' := by
  unfold setW at h ⊢
  split at h
  · split at h
    · split at h
      · split at h
        · exact hQ _ h
        · exact h.elim
      · exact h.elim
    · exact ⟨h.1, h.2.1, hQ _ h.2.2⟩
    · exact h.elim
  · exact h.elim
/-- a dict that is not walked -/
def dicAt (S : Sto) : D → Option (Nat × Bool × List (D × D))
  | .ref r => (match S[r]? with
    | some (.dic t false kvs) => some (r, t, kvs)
    | _ => none)
  | _ => none
/-- a test -/
def wpT (hx : Option Nat) (e : Tm) (ρ : Env) (S : Sto) (Q : Bool → Sto → Prop) (EX : PX) : Prop :=
  wpE T C hx e ρ S (fun d S1 => match d with
    | .bl b => Q b S1
    | _ => False) EX
mutual
def wpC (hx : Option Nat) : Cm → Env → Sto → Kt → PX → Prop
  | .asg i e, ρ, S, K, EX => wpE T C hx e ρ S (fun d S1 => K.nx (ρ.set i (some d)) S1) EX
  | .asgT is e, ρ, S, K, EX => wpE T C hx e ρ S (fun d S1 => match asgT is d ρ with
    | some ρ' => K.nx ρ' S1
    | none => False) EX
  | .setX o i e, ρ, S, K, EX => wpE T C hx e ρ S (fun v S1 => wpE T C hx o ρ S1 (fun x S2 => wpE T C hx i ρ S2 (fun y S3 => setW x y v S3 fun S4 => K.nx ρ S4) EX) EX) EX
  | .setA o f e, ρ, S, K, EX => wpE T C hx e ρ S (fun v S1 => wpE T C hx o ρ S1 (fun x S2 => match x with
    | .ref r => (match S2[r]? with
      | some (.ins c fs) => fs.length < 1000 ∧ K.nx ρ (S2.set r (.ins c (putN f v fs)))
      | _ => False)
    | _ => False) EX) EX
  | .ex e, ρ, S, K, EX => wpE T C hx e ρ S (fun _ S1 => K.nx ρ S1) EX
  | .ret e, ρ, S, K, EX => wpE T C hx e ρ S K.rt EX
  | .retN, _, S, K, _ => K.rt .non S
  | .pass, ρ, S, K, _ => K.nx ρ S
  | .brk, ρ, S, K, _ => K.bk ρ S
  | .cont, ρ, S, K, _ => K.ct ρ S
  | .ite t a b, ρ, S, K, EX => wpT T C hx t ρ S (fun k S1 => if k = true then wpCs hx a ρ S1 K EX else wpCs hx b ρ S1 K EX) EX
  | .whil t b, ρ, S, K, EX => ∃ n, whN (fun ρ S Q => wpT T C hx t ρ S Q EX) (fun ρ S K => wpCs hx b ρ S K EX) K n ρ S
  | .for1 i src b, ρ, S, K, EX => wpI T C hx src ρ S (fun w S1 => foN (asg1 i) w.stand (fun ρ S K => wpCs hx b ρ S K EX) K w.items ρ S1) EX
  | .forT is src b, ρ, S, K, EX => wpI T C hx src ρ S (fun w S1 => foN (asgT is) w.stand (fun ρ S K => wpCs hx b ρ S K EX) K w.items ρ S1) EX
  | .forV i v b, ρ, S, K, EX => match ρ[v]? with
    | some (some x) => (match dicAt S x with
      | some (r, t, kvs) => foN (asg1 i) (fun S' => S'[r]? = some (.dic t true kvs)) (fun ρ S K => wpCs hx b ρ S K fun _ _ => False) (lkK r t kvs K) (kvs.map (·.1)) ρ (S.set r (.dic t true kvs))
      | none => (match wkOf S x with
        | some w => foN (asg1 i) w.stand (fun ρ S K => wpCs hx b ρ S K EX) K w.items ρ S
        | none => False))
    | _ => False
  | .forI i j v b, ρ, S, K, EX => match ρ[v]? with
    | some (some x) => (match dicAt S x with
      | some (r, true, kvs) => foN (asgT [i, j]) (fun S' => S'[r]? = some (.dic true true kvs)) (fun ρ S K => wpCs hx b ρ S K fun _ _ => False) (lkK r true kvs K) (kvs.map fun p => .tup [p.1, p.2]) ρ (S.set r (.dic true true kvs))
      | _ => False)
    | _ => False
  | .rais c, _, S, _, EX => EX c S
  | .tryC b c ie hd, ρ, S, K, EX => wpC hx b ρ S K (fun k S1 => if T.sub k c = true then wpCs (some k) hd (ρ.set ie none) S1 (hdK ie K) (fun _ _ => False) else EX k S1)
def wpCs (hx : Option Nat) : Cms → Env → Sto → Kt → PX → Prop
  | .nil, ρ, S, K, _ => K.nx ρ S
  | .cons s r, ρ, S, K, EX => wpC hx s ρ S { K with nx := fun ρ' S' => wpCs hx r ρ' S' K EX } EX
end
end

/-- a def: how many parameters, how many names, its body -/
structure Df where
  np : Nat
  nn : Nat
  body : Cms
def wpCall (T : Tab) (F : Nat → Option Df) : Nat → Calls
  | 0, _, _, _, _, _ => False
  | n + 1, f, ds, S, Q, EX => match F f with
    | some d => ds.length = d.np ∧ wpCs T (wpCall T F n) none d.body (ds.map some ++ List.replicate (d.nn - d.np) none) S { nx := fun _ S' => Q .non S', rt := Q, bk := fun _ _ => False, ct := fun _ _ => False } EX
    | none => False
example (T : Tab) (C : Calls) (hx ρ S Q EX d) : wpE T C hx (.cst d) ρ S Q EX = Q d S := rfl
example (T : Tab) (C : Calls) (hx ρ S K EX) : wpCs T C hx (.cons .pass .nil) ρ S K EX = K.nx ρ S := rfl
end Mp
namespace Mp
open PySem
def MonoC (C : Calls) : Prop := ∀ f ds S (Q Q' : PQ) (EX EX' : PX), (∀ d S', Q d S' → Q' d S') → (∀ k S', EX k S' → EX' k S') → C f ds S Q EX → C f ds S Q' EX'

theorem compN_mono {r : Nat} {stand : Sto → Prop} {turn turn' : D → Sto → (Option D → Sto → Prop) → Prop} {k k' : Sto → Prop} (ht : ∀ x S (q q' : Option D → Sto → Prop), (∀ o S', q o S' → q' o S') → turn x S q → turn' x S q') (hk : ∀ S, k S → k' S) :
    ∀ (xs acc : List D) (S : Sto), compN r stand turn k xs acc S → compN r stand turn' k' xs acc S
  | [], _, _, h => ⟨h.1, h.2.1, hk _ h.2.2⟩
  | x :: xs, acc, S, h => by
    refine ⟨h.1, h.2.1, ht x S _ _ (fun o S' q => ?_) h.2.2⟩
    cases o with
    | some d => exact ⟨q.1, q.2.1, compN_mono ht hk xs _ _ q.2.2⟩
    | none => exact compN_mono ht hk xs _ _ q

structure Kt.Le (K K' : Kt) : Prop where
  nx : ∀ ρ S, K.nx ρ S → K'.nx ρ S
  rt : ∀ d S, K.rt d S → K'.rt d S
  bk : ∀ ρ S, K.bk ρ S → K'.bk ρ S
  ct : ∀ ρ S, K.ct ρ S → K'.ct ρ S
theorem Kt.Le.refl (K : Kt) : K.Le K := ⟨fun _ _ h => h, fun _ _ h => h, fun _ _ h => h, fun _ _ h => h⟩
theorem Kt.Le.lk {K K' : Kt} (h : K.Le K') {r : Nat} {t : Bool} {kvs : List (D × D)} : (lkK r t kvs K).Le (lkK r t kvs K') :=
  ⟨fun _ _ z => ⟨z.1, h.nx _ _ z.2⟩, fun _ _ z => ⟨z.1, h.rt _ _ z.2⟩, fun _ _ z => ⟨z.1, h.bk _ _ z.2⟩, fun _ _ z => ⟨z.1, h.ct _ _ z.2⟩⟩
theorem whN_mono {wt wt' : Env → Sto → (Bool → Sto → Prop) → Prop} {wb wb' : Env → Sto → Kt → Prop} (ht : ∀ ρ S (q q' : Bool → Sto → Prop), (∀ b S', q b S' → q' b S') → wt ρ S q → wt' ρ S q')
    (hb : ∀ ρ S K K', Kt.Le K K' → wb ρ S K → wb' ρ S K') {K K' : Kt} (hK : K.Le K') : ∀ n ρ S, whN wt wb K n ρ S → whN wt' wb' K' n ρ S
  | 0, _, _, h => h
  | n + 1, ρ, S, h => by
    refine ht ρ S _ _ (fun b S' q => ?_) h
    cases b with
    | true =>
      refine hb _ _ _ _ ?_ q
      exact ⟨fun _ _ z => whN_mono ht hb hK n _ _ z, hK.rt, hK.nx, fun _ _ z => whN_mono ht hb hK n _ _ z⟩
    | false => exact hK.nx _ _ q
theorem foN_mono {asg : D → Env → Option Env} {stand : Sto → Prop} {wb wb' : Env → Sto → Kt → Prop} (hb : ∀ ρ S K K', Kt.Le K K' → wb ρ S K → wb' ρ S K') {K K' : Kt} (hK : K.Le K') :
    ∀ xs ρ S, foN asg stand wb K xs ρ S → foN asg stand wb' K' xs ρ S
  | [], _, _, h => ⟨h.1, hK.nx _ _ h.2⟩
  | x :: xs, ρ, S, h => by
    refine ⟨h.1, ?_⟩
    have h2 := h.2
    cases e : asg x ρ with
    | none => rw [e] at h2; exact h2.elim
    | some ρ' =>
      rw [e] at h2
      refine hb _ _ _ _ ?_ h2
      exact ⟨fun _ _ z => foN_mono hb hK xs _ _ z, hK.rt, hK.nx, fun _ _ z => foN_mono hb hK xs _ _ z⟩

section
variable {T : Tab} {C : Calls} (hC : MonoC C)
include hC
mutual
theorem wpE_mono {hx : Option Nat} : ∀ (e : Tm) (ρ : Env) (S : Sto) (Q Q' : PQ) (EX EX' : PX), (∀ d S', Q d S' → Q' d S') → (∀ k S', EX k S' → EX' k S') → wpE T C hx e ρ S Q EX → wpE T C hx e ρ S Q' EX'
  | .var i, ρ, S, Q, Q', EX, EX', hQ, hX, h => by
    simp only [wpE] at h ⊢
    split at h
    · exact hQ _ _ h
    · exact h.elim
  | .cst d, ρ, S, Q, Q', EX, EX', hQ, hX, h => hQ _ _ h
  | .glob g, ρ, S, Q, Q', EX, EX', hQ, hX, h => by
    simp only [wpE] at h ⊢
    split at h
    · exact hQ _ _ h
    · exact h.elim
  | .op o es, ρ, S, Q, Q', EX, EX', hQ, hX, h => wpEs_mono es ρ S _ _ EX EX' (fun ds S1 q => opD_mono q hQ) hX h
  | .and a b, ρ, S, Q, Q', EX, EX', hQ, hX, h => by
    refine wpE_mono a ρ S _ _ EX EX' (fun d S1 q => ?_) hX h
    split at q
    · exact wpE_mono b ρ S1 _ _ EX EX' hQ hX q
    · exact hQ _ _ q
    · exact q.elim
  | .or a b, ρ, S, Q, Q', EX, EX', hQ, hX, h => by
    refine wpE_mono a ρ S _ _ EX EX' (fun d S1 q => ?_) hX h
    split at q
    · exact hQ _ _ q
    · exact wpE_mono b ρ S1 _ _ EX EX' hQ hX q
    · exact q.elim
  | .chain o1 o2 a b c, ρ, S, Q, Q', EX, EX', hQ, hX, h => by
    refine wpE_mono a ρ S _ _ EX EX' (fun x S1 q => ?_) hX h
    refine wpE_mono b ρ S1 _ _ EX EX' (fun y S2 q => ?_) hX q
    refine opD_mono q fun z S3 q => ?_
    split at q
    · exact wpE_mono c ρ S3 _ _ EX EX' (fun v S4 q => opD_mono q hQ) hX q
    · exact hQ _ _ q
    · exact q.elim
  | .call f es, ρ, S, Q, Q', EX, EX', hQ, hX, h => wpEs_mono es ρ S _ _ EX EX' (fun ds S1 q => hC _ _ _ _ _ _ _ hQ hX q) hX h
  | .make c es, ρ, S, Q, Q', EX, EX', hQ, hX, h => by
    refine wpEs_mono es ρ S _ _ EX EX' (fun ds S1 q => ?_) hX h
    cases e : T.ini c with
    | some f => rw [e] at q; exact hC _ _ _ _ _ _ _ (fun d S' z => ⟨z.1, hQ _ _ z.2⟩) (fun _ _ z => z) q
    | none => rw [e] at q; exact ⟨q.1, hQ _ _ q.2⟩
  | .meth m a es, ρ, S, Q, Q', EX, EX', hQ, hX, h => by
    refine wpE_mono a ρ S _ _ EX EX' (fun x S1 q => ?_) hX h
    cases x with
    | ref r =>
      simp only at q ⊢
      split at q
      · split at q
        · exact ⟨q.1, wpEs_mono es ρ S1 _ _ EX EX' (fun ds S2 q => hC _ _ _ _ _ _ _ hQ (fun _ _ z => z) q) hX q.2⟩
        · exact q.elim
      · exact q.elim
    | _ => exact q.elim
  | .bm o a es, ρ, S, Q, Q', EX, EX', hQ, hX, h => by
    refine wpE_mono a ρ S _ _ EX EX' (fun x S1 q => ?_) hX h
    exact ⟨q.1, wpEs_mono es ρ S1 _ _ EX EX' (fun ds S2 z => opD_mono z hQ) hX q.2⟩
  | .comp e i src, ρ, S, Q, Q', EX, EX', hQ, hX, h => by
    refine wpI_mono src ρ S _ _ EX EX' (fun w S1 q => ?_) hX h
    exact compN_mono (fun x S2 k k' hk z => wpE_mono e _ S2 _ _ _ _ (fun d S3 y => hk _ _ y) (fun _ _ y => y) z) (fun S2 z => hQ _ _ z) _ _ _ q
  | .compIf e i src t, ρ, S, Q, Q', EX, EX', hQ, hX, h => by
    refine wpI_mono src ρ S _ _ EX EX' (fun w S1 q => ?_) hX h
    refine compN_mono (fun x S2 k k' hk z => ?_) (fun S2 z => hQ _ _ z) _ _ _ q
    refine wpE_mono t _ S2 _ _ _ _ (fun d S3 y => ?_) (fun _ _ y => y) z
    split at y
    · exact wpE_mono e _ S3 _ _ _ _ (fun d S4 y => hk _ _ y) (fun _ _ y => y) y
    · exact hk _ _ y
    · exact y.elim
  | .isE cs, ρ, S, Q, Q', EX, EX', hQ, hX, h => by
    simp only [wpE] at h ⊢
    split at h
    · exact hQ _ _ h
    · exact h.elim
theorem wpEs_mono {hx : Option Nat} : ∀ (es : Tms) (ρ : Env) (S : Sto) (Q Q' : List D → Sto → Prop) (EX EX' : PX), (∀ d S', Q d S' → Q' d S') → (∀ k S', EX k S' → EX' k S') → wpEs T C hx es ρ S Q EX → wpEs T C hx es ρ S Q' EX'
  | .nil, ρ, S, Q, Q', EX, EX', hQ, hX, h => hQ _ _ h
  | .cons e r, ρ, S, Q, Q', EX, EX', hQ, hX, h => by
    refine wpE_mono e ρ S _ _ EX EX' (fun d S1 q => ?_) hX h
    exact wpEs_mono r ρ S1 _ _ EX EX' (fun ds S2 z => hQ _ _ z) hX q
theorem wpI_mono {hx : Option Nat} : ∀ (es : Src) (ρ : Env) (S : Sto) (Q Q' : Wk → Sto → Prop) (EX EX' : PX), (∀ d S', Q d S' → Q' d S') → (∀ k S', EX k S' → EX' k S') → wpI T C hx es ρ S Q EX → wpI T C hx es ρ S Q' EX'
  | .seq e, ρ, S, Q, Q', EX, EX', hQ, hX, h => by
    refine wpE_mono e ρ S _ _ EX EX' (fun x S1 q => ?_) hX h
    split at q
    · exact hQ _ _ q
    · exact q.elim
  | .rng1 a, ρ, S, Q, Q', EX, EX', hQ, hX, h => by
    refine wpE_mono a ρ S _ _ EX EX' (fun x S1 q => ?_) hX h
    cases x with
    | int j => exact ⟨q.1, q.2.1, hQ _ _ q.2.2⟩
    | _ => exact q.elim
  | .rng3 a b c, ρ, S, Q, Q', EX, EX', hQ, hX, h => by
    refine wpE_mono a ρ S _ _ EX EX' (fun x S1 q => ?_) hX h
    refine wpE_mono b ρ S1 _ _ EX EX' (fun y S2 q => ?_) hX q
    refine wpE_mono c ρ S2 _ _ EX EX' (fun z S3 q => ?_) hX q
    split at q
    · exact ⟨q.1, hQ _ _ q.2⟩
    · exact q.elim
end
theorem wpT_mono {hx : Option Nat} {e : Tm} {ρ : Env} {S : Sto} {Q Q' : Bool → Sto → Prop} {EX EX' : PX} (hQ : ∀ d S', Q d S' → Q' d S') (hX : ∀ k S', EX k S' → EX' k S') (h : wpT T C hx e ρ S Q EX) : wpT T C hx e ρ S Q' EX' := by
  refine wpE_mono hC e ρ S _ _ EX EX' (fun x S1 q => ?_) hX h
  cases x with
  | bl b => exact hQ _ _ q
  | _ => exact q.elim
mutual
theorem wpC_mono {hx : Option Nat} : ∀ (s : Cm) (ρ : Env) (S : Sto) (K K' : Kt) (EX EX' : PX), K.Le K' → (∀ k S', EX k S' → EX' k S') → wpC T C hx s ρ S K EX → wpC T C hx s ρ S K' EX'
  | .asg i e, ρ, S, K, K', EX, EX', hK, hX, h => wpE_mono hC e ρ S _ _ EX EX' (fun d S1 q => hK.nx _ _ q) hX h
  | .asgT is e, ρ, S, K, K', EX, EX', hK, hX, h => by
    refine wpE_mono hC e ρ S _ _ EX EX' (fun d S1 q => ?_) hX h
    cases e : asgT is d ρ with
    | some ρ' => rw [e] at q; exact hK.nx _ _ q
    | none => rw [e] at q; exact q.elim
  | .setX o i e, ρ, S, K, K', EX, EX', hK, hX, h => by
    refine wpE_mono hC e ρ S _ _ EX EX' (fun d S1 q => ?_) hX h
    refine wpE_mono hC o ρ S1 _ _ EX EX' (fun x S2 q => ?_) hX q
    exact wpE_mono hC i ρ S2 _ _ EX EX' (fun y S3 q => setW_mono (fun S4 z => hK.nx _ _ z) q) hX q
  | .setA o f e, ρ, S, K, K', EX, EX', hK, hX, h => by
    refine wpE_mono hC e ρ S _ _ EX EX' (fun v S1 q => ?_) hX h
    refine wpE_mono hC o ρ S1 _ _ EX EX' (fun x S2 q => ?_) hX q
    split at q
    · split at q
      · exact ⟨q.1, hK.nx _ _ q.2⟩
      · exact q.elim
    · exact q.elim
  | .ex e, ρ, S, K, K', EX, EX', hK, hX, h => wpE_mono hC e ρ S _ _ EX EX' (fun d S1 q => hK.nx _ _ q) hX h
  | .ret e, ρ, S, K, K', EX, EX', hK, hX, h => wpE_mono hC e ρ S _ _ EX EX' hK.rt hX h
  | .retN, ρ, S, K, K', EX, EX', hK, hX, h => hK.rt _ _ h
  | .pass, ρ, S, K, K', EX, EX', hK, hX, h => hK.nx _ _ h
  | .brk, ρ, S, K, K', EX, EX', hK, hX, h => hK.bk _ _ h
  | .cont, ρ, S, K, K', EX, EX', hK, hX, h => hK.ct _ _ h
  | .ite t a b, ρ, S, K, K', EX, EX', hK, hX, h => by
    refine wpT_mono hC (fun k S1 q => ?_) hX h
    cases k with
    | true => exact wpCs_mono a ρ S1 K K' EX EX' hK hX q
    | false => exact wpCs_mono b ρ S1 K K' EX EX' hK hX q
  | .whil t b, ρ, S, K, K', EX, EX', hK, hX, h => by
    obtain ⟨n, h⟩ := h
    refine ⟨n, whN_mono (fun ρ S q q' hq z => ?_) (fun ρ S K K' hK z => wpCs_mono b ρ S K K' EX EX' hK hX z) hK n ρ S h⟩
    exact wpT_mono hC hq hX z
  | .for1 i src b, ρ, S, K, K', EX, EX', hK, hX, h => by
    refine wpI_mono hC src ρ S _ _ EX EX' (fun w S1 q => ?_) hX h
    exact foN_mono (fun ρ S K K' hK z => wpCs_mono b ρ S K K' EX EX' hK hX z) hK _ _ _ q
  | .forT is src b, ρ, S, K, K', EX, EX', hK, hX, h => by
    refine wpI_mono hC src ρ S _ _ EX EX' (fun w S1 q => ?_) hX h
    exact foN_mono (fun ρ S K K' hK z => wpCs_mono b ρ S K K' EX EX' hK hX z) hK _ _ _ q
  | .forV i v b, ρ, S, K, K', EX, EX', hK, hX, h => by
    simp only [wpC] at h ⊢
    split at h
    · split at h
      · exact foN_mono (fun ρ S K K' hK z => wpCs_mono b ρ S K K' _ _ hK (fun _ _ z => z) z) (Kt.Le.lk hK) _ _ _ h
      · split at h
        · exact foN_mono (fun ρ S K K' hK z => wpCs_mono b ρ S K K' EX EX' hK hX z) hK _ _ _ h
        · exact h.elim
    · exact h.elim
  | .forI i j v b, ρ, S, K, K', EX, EX', hK, hX, h => by
    simp only [wpC] at h ⊢
    split at h
    · split at h
      · exact foN_mono (fun ρ S K K' hK z => wpCs_mono b ρ S K K' _ _ hK (fun _ _ z => z) z) (Kt.Le.lk hK) _ _ _ h
      · exact h.elim
    · exact h.elim
  | .rais c, ρ, S, K, K', EX, EX', hK, hX, h => hX _ _ h
  | .tryC b c ie hd, ρ, S, K, K', EX, EX', hK, hX, h => by
    refine wpC_mono b ρ S K K' _ _ hK (fun k S1 q => ?_) h
    split at q
    · rename_i e; rw [if_pos e]; exact wpCs_mono hd _ S1 (hdK ie K) (hdK ie K') _ _ ⟨fun _ _ => hK.nx _ _, hK.rt, fun _ _ => hK.bk _ _, fun _ _ => hK.ct _ _⟩ (fun _ _ z => z) q
    · rename_i e; rw [if_neg e]; exact hX _ _ q
theorem wpCs_mono {hx : Option Nat} : ∀ (s : Cms) (ρ : Env) (S : Sto) (K K' : Kt) (EX EX' : PX), K.Le K' → (∀ k S', EX k S' → EX' k S') → wpCs T C hx s ρ S K EX → wpCs T C hx s ρ S K' EX'
  | .nil, ρ, S, K, K', EX, EX', hK, hX, h => hK.nx _ _ h
  | .cons s r, ρ, S, K, K', EX, EX', hK, hX, h => by
    refine wpC_mono s ρ S _ _ EX EX' ?_ hX h
    exact ⟨fun ρ' S' z => wpCs_mono r ρ' S' K K' EX EX' hK hX z, hK.rt, hK.bk, hK.ct⟩
end
end
theorem wpCall_mono (T : Tab) (F : Nat → Option Df) : ∀ n, MonoC (wpCall T F n)
  | 0 => fun _ _ _ _ _ _ _ _ _ h => h
  | n + 1 => fun f ds S Q Q' EX EX' hQ hX h => by
    simp only [wpCall] at h ⊢
    split at h
    · refine ⟨h.1, wpCs_mono (wpCall_mono T F n) _ _ _ _ _ _ _ ?_ hX h.2⟩
      exact ⟨fun _ _ z => hQ _ _ z, hQ, fun _ _ z => z, fun _ _ z => z⟩
    · exact h.elim
end Mp
namespace Mp
open PySem L2

/-! ### clean data beside the abstract heap -/
abbrev Mu := Nat → Option Addr
/-- a list that is only read -/
def SqC (K : PySem.W.Frag) (H : Hp) (a : Addr) (xs : List V) : Prop :=
  (∃ o, H a = some (.frz o (.lst xs))) ∨
    ∃ (o : Obj) (its : Array Value) (n : Nat), K.lookup a = some o ∧ o.cls = .type "list" ∧ o.dict = none ∧ o.data = .seq its n ∧ its.size ≤ sizeLine ∧ Vals xs its.toList
theorem SqC.sql {K : PySem.W.Frag} {H : Hp} {a : Addr} {xs : List V} (h : SqC K H a xs) : SqL K H a xs := by
  rcases h with h | h
  · exact .inl (.inr h)
  · exact .inr h
/-- signs that there are -/
def Cok (s : List Nat) : Prop := ∀ c ∈ s, c < 0x110000
theorem Cok.of {s : List Nat} (h : s.all (· < 0x110000) = true) : Cok s := fun c hc => by simpa using List.all_eq_true.mp h c hc
theorem Cok.append {a b : List Nat} (h : Cok a) (k : Cok b) : Cok (a ++ b) := fun c hc => (List.mem_append.mp hc).elim (h c) (k c)
theorem Cok.sub {a b : List Nat} (h : Cok a) (k : ∀ c ∈ b, c ∈ a) : Cok b := fun c hc => h c (k c hc)
mutual
inductive RD (K : PySem.W.Frag) (μ : Mu) (H : Hp) : V → D → Prop
  | non : RD K μ H .non .non
  | bl (b : Bool) : RD K μ H (.bl b) (.bl b)
  | int (i : Int) : RD K μ H (.int i) (.int i)
  | str {s : List Nat} : Cok s → RD K μ H (.str ⟨s.toArray⟩) (.str s)
  | tup {a : Addr} {vs : List V} {ds : List D} : H a = some (.tup vs) → RDs K μ H vs ds → RD K μ H (.ref a) (.tup ds)
  | lis {a : Addr} {vs : List V} {ds : List D} : SqC K H a vs → RDs K μ H vs ds → RD K μ H (.ref a) (.lis ds)
  | ref {r : Nat} {a : Addr} : μ r = some a → RD K μ H (.ref a) (.ref r)
inductive RDs (K : PySem.W.Frag) (μ : Mu) (H : Hp) : List V → List D → Prop
  | nil : RDs K μ H [] []
  | cons {v : V} {vs : List V} {d : D} {ds : List D} : RD K μ H v d → RDs K μ H vs ds → RDs K μ H (v :: vs) (d :: ds)
end
theorem strBack (x : Str) : (⟨x.cps.toList.toArray⟩ : Str) = x := by cases x; simp
theorem RD.str' {K : PySem.W.Frag} {μ : Mu} {H : Hp} {s : List Nat} (h : Cok s) : RD K μ H (.str ⟨s.toArray⟩) (.str s) := .str h
theorem RD.strOf {K : PySem.W.Frag} {μ : Mu} {H : Hp} (x : Str) (h : Cok x.cps.toList) : RD K μ H (.str x) (.str x.cps.toList) := by
  have q := RD.str (K := K) (μ := μ) (H := H) h
  rw [strBack] at q
  exact q
theorem RD.str_inv {K : PySem.W.Frag} {μ : Mu} {H : Hp} {v : V} {s : List Nat} (h : RD K μ H v (.str s)) : v = .str ⟨s.toArray⟩ := by
  cases h; rfl
theorem RD.cok {K : PySem.W.Frag} {μ : Mu} {H : Hp} {v : V} {s : List Nat} (h : RD K μ H v (.str s)) : Cok s := by
  cases h; assumption
theorem RD.int_inv {K : PySem.W.Frag} {μ : Mu} {H : Hp} {v : V} {i : Int} (h : RD K μ H v (.int i)) : v = .int i := by cases h; rfl
theorem RD.bl_inv {K : PySem.W.Frag} {μ : Mu} {H : Hp} {v : V} {i : Bool} (h : RD K μ H v (.bl i)) : v = .bl i := by cases h; rfl
theorem RD.non_inv {K : PySem.W.Frag} {μ : Mu} {H : Hp} {v : V} (h : RD K μ H v .non) : v = .non := by cases h; rfl
theorem RD.tup_inv {K : PySem.W.Frag} {μ : Mu} {H : Hp} {v : V} {ds : List D} (h : RD K μ H v (.tup ds)) : ∃ a vs, v = .ref a ∧ H a = some (.tup vs) ∧ RDs K μ H vs ds := by
  cases h with
  | tup h1 h2 => exact ⟨_, _, rfl, h1, h2⟩
theorem RD.ref_inv {K : PySem.W.Frag} {μ : Mu} {H : Hp} {v : V} {r : Nat} (h : RD K μ H v (.ref r)) : ∃ a, v = .ref a ∧ μ r = some a := by
  cases h with
  | ref h1 => exact ⟨_, rfl, h1⟩
theorem RD.not_non {K : PySem.W.Frag} {μ : Mu} {H : Hp} {v : V} {d : D} (h : RD K μ H v d) : (v = .non) ↔ (d = .non) := by
  cases h <;> simp

/-- later worlds -/
structure Ext (μ : Mu) (H : Hp) (μ' : Mu) (H' : Hp) : Prop where
  mu : ∀ r a, μ r = some a → μ' r = some a
  tup : ∀ a xs, H a = some (.tup xs) → H' a = some (.tup xs)
  frz : ∀ a o u, H a = some (.frz o u) → H' a = some (.frz o u)
/-- .. as far as data hangs on it -/
structure Exw (μ : Mu) (H : Hp) (μ' : Mu) (H' : Hp) : Prop where
  mu : ∀ r a, μ r = some a → μ' r = some a
  tup : ∀ a xs, H a = some (.tup xs) → H' a = some (.tup xs)
  frl : ∀ a o xs, H a = some (.frz o (.lst xs)) → H' a = some (.frz o (.lst xs))
theorem Ext.w {μ μ' : Mu} {H H' : Hp} (e : Ext μ H μ' H') : Exw μ H μ' H' := ⟨e.mu, e.tup, fun a o xs h => e.frz a o _ h⟩
theorem Ext.refl (μ : Mu) (H : Hp) : Ext μ H μ H := ⟨fun _ _ h => h, fun _ _ h => h, fun _ _ _ h => h⟩
theorem Ext.trans {μ μ1 μ2 : Mu} {H H1 H2 : Hp} (a : Ext μ H μ1 H1) (b : Ext μ1 H1 μ2 H2) : Ext μ H μ2 H2 :=
  ⟨fun r x h => b.mu r x (a.mu r x h), fun r x h => b.tup r x (a.tup r x h), fun r x u h => b.frz r x u (a.frz r x u h)⟩
theorem Ext.upd {μ : Mu} {H : Hp} {a : Addr} {o : HO} (h : H a = none ∨ Mut (H a)) : Ext μ H μ (upd H a o) := by
  refine ⟨fun _ _ h => h, fun b xs e => ?_, fun b ob u e => ?_⟩
  · by_cases hb : b = a
    · subst hb; rw [e] at h; rcases h with h | h
      · cases h
      · exact h.elim
    · rw [upd_ne hb]; exact e
  · by_cases hb : b = a
    · subst hb; rw [e] at h; rcases h with h | h
      · cases h
      · exact h.elim
    · rw [upd_ne hb]; exact e
theorem SqC.extw {K : PySem.W.Frag} {μ μ' : Mu} {H H' : Hp} (e : Exw μ H μ' H') {a : Addr} {xs : List V} (h : SqC K H a xs) : SqC K H' a xs := by
  rcases h with ⟨o, h⟩ | h
  · exact .inl ⟨o, e.frl _ _ _ h⟩
  · exact .inr h
/-- a new place, told by the next number -/
def muAdd (μ : Mu) (n : Nat) (a : Addr) : Mu := fun r => if r = n then some a else μ r
theorem muAdd_self {μ : Mu} {n : Nat} {a : Addr} : muAdd μ n a n = some a := by simp [muAdd]
theorem muAdd_old {μ : Mu} {n r : Nat} {a : Addr} (h : r ≠ n) : muAdd μ n a r = μ r := by simp [muAdd, h]
mutual
theorem RD.extw {K : PySem.W.Frag} {μ μ' : Mu} {H H' : Hp} (e : Exw μ H μ' H') : ∀ {d : D} {v : V}, RD K μ H v d → RD K μ' H' v d
  | .non, _, h => by cases h; exact .non
  | .bl _, _, h => by cases h; exact .bl _
  | .int _, _, h => by cases h; exact .int _
  | .str _, _, h => by cases h with | str h => exact .str h
  | .tup ds, _, h => by
    cases h with
    | tup h1 h2 => exact .tup (e.tup _ _ h1) (RDs.extw e h2)
  | .lis ds, _, h => by
    cases h with
    | lis h1 h2 => exact .lis (h1.extw e) (RDs.extw e h2)
  | .ref r, _, h => by
    cases h with
    | ref h1 => exact .ref (e.mu _ _ h1)
theorem RDs.extw {K : PySem.W.Frag} {μ μ' : Mu} {H H' : Hp} (e : Exw μ H μ' H') : ∀ {ds : List D} {vs : List V}, RDs K μ H vs ds → RDs K μ' H' vs ds
  | [], _, h => by cases h; exact .nil
  | d :: ds, _, h => by
    cases h with
    | cons h1 h2 => exact .cons (RD.extw e h1) (RDs.extw e h2)
end
theorem RD.ext {K : PySem.W.Frag} {μ μ' : Mu} {H H' : Hp} (e : Ext μ H μ' H') {d : D} {v : V} (h : RD K μ H v d) : RD K μ' H' v d := h.extw e.w
theorem RDs.ext {K : PySem.W.Frag} {μ μ' : Mu} {H H' : Hp} (e : Ext μ H μ' H') {d : List D} {v : List V} (h : RDs K μ H v d) : RDs K μ' H' v d := h.extw e.w
section
variable {K : PySem.W.Frag} {μ : Mu} {H : Hp}
theorem RDs.length : ∀ {ds : List D} {vs : List V}, RDs K μ H vs ds → vs.length = ds.length
  | [], _, h => by cases h; rfl
  | _ :: ds, _, h => by
    cases h with
    | cons _ h2 => simp [RDs.length h2]
theorem RDs.get : ∀ {ds : List D} {vs : List V} {i : Nat} {d : D}, RDs K μ H vs ds → ds[i]? = some d → ∃ v, vs[i]? = some v ∧ RD K μ H v d
  | [], _, _, _, _, e => by simp at e
  | x :: ds, _, 0, d, h, e => by
    cases h with
    | cons h1 h2 => simp at e; subst e; exact ⟨_, rfl, h1⟩
  | x :: ds, _, i + 1, d, h, e => by
    cases h with
    | cons h1 h2 => simpa using RDs.get h2 (by simpa using e)
theorem RDs.getV : ∀ {ds : List D} {vs : List V} {i : Nat} {v : V}, RDs K μ H vs ds → vs[i]? = some v → ∃ d, ds[i]? = some d ∧ RD K μ H v d
  | [], _, _, _, h, e => by cases h; simp at e
  | x :: ds, _, 0, v, h, e => by
    cases h with
    | cons h1 h2 => simp at e; subst e; exact ⟨_, rfl, h1⟩
  | x :: ds, _, i + 1, v, h, e => by
    cases h with
    | cons h1 h2 => simpa using RDs.getV h2 (by simpa using e)
theorem RDs.append : ∀ {ds es : List D} {vs ws : List V}, RDs K μ H vs ds → RDs K μ H ws es → RDs K μ H (vs ++ ws) (ds ++ es)
  | [], _, _, _, h, h' => by cases h; exact h'
  | _ :: _, _, _, _, h, h' => by
    cases h with
    | cons h1 h2 => exact .cons h1 (RDs.append h2 h')
theorem RDs.take : ∀ {ds : List D} {vs : List V} (n : Nat), RDs K μ H vs ds → RDs K μ H (vs.take n) (ds.take n)
  | _, _, 0, _ => by simp; exact .nil
  | [], _, n + 1, h => by cases h; exact .nil
  | _ :: _, _, n + 1, h => by
    cases h with
    | cons h1 h2 => exact .cons h1 (RDs.take n h2)
theorem RDs.drop : ∀ {ds : List D} {vs : List V} (n : Nat), RDs K μ H vs ds → RDs K μ H (vs.drop n) (ds.drop n)
  | _, _, 0, h => by simpa using h
  | [], _, n + 1, h => by cases h; exact .nil
  | _ :: _, _, n + 1, h => by
    cases h with
    | cons h1 h2 => simpa using RDs.drop n h2
theorem RDs.reverse : ∀ {ds : List D} {vs : List V}, RDs K μ H vs ds → RDs K μ H vs.reverse ds.reverse
  | [], _, h => by cases h; exact .nil
  | _ :: _, _, h => by
    cases h with
    | cons h1 h2 => rw [List.reverse_cons, List.reverse_cons]; exact RDs.append (RDs.reverse h2) (.cons h1 .nil)
theorem RDs.set {d : D} {v : V} (r : RD K μ H v d) : ∀ {ds : List D} {vs : List V} (n : Nat), RDs K μ H vs ds → RDs K μ H (vs.set n v) (ds.set n d)
  | [], _, _, h => by cases h; exact .nil
  | _ :: _, _, 0, h => by
    cases h with
    | cons h1 h2 => exact .cons r h2
  | _ :: _, _, n + 1, h => by
    cases h with
    | cons h1 h2 => exact .cons h1 (RDs.set r n h2)
theorem RDs.atI {ds : List D} {vs : List V} {i : Int} {d : D} (h : RDs K μ H vs ds) (e : L2.atI ds i = some d) : ∃ v, L2.atI vs i = some v ∧ RD K μ H v d := by
  unfold L2.atI at e ⊢
  rw [h.length]
  cases z : ixN ds.length i with
  | none => rw [z] at e; simp at e
  | some j => rw [z] at e; simpa using h.get (by simpa using e)
theorem RDs.two {x y : D} {vs : List V} (h : RDs K μ H vs [x, y]) : ∃ v w, vs = [v, w] ∧ RD K μ H v x ∧ RD K μ H w y := by
  cases h with
  | cons h1 h2 =>
    cases h2 with
    | cons h3 h4 => cases h4; exact ⟨_, _, rfl, h1, h3⟩
theorem RDs.one {x : D} {vs : List V} (h : RDs K μ H vs [x]) : ∃ v, vs = [v] ∧ RD K μ H v x := by
  cases h with
  | cons h1 h2 => cases h2; exact ⟨_, rfl, h1⟩
theorem RDs.three {x y z : D} {vs : List V} (h : RDs K μ H vs [x, y, z]) : ∃ v w u, vs = [v, w, u] ∧ RD K μ H v x ∧ RD K μ H w y ∧ RD K μ H u z := by
  cases h with
  | cons h1 h2 =>
    obtain ⟨w, u, rfl, h3, h4⟩ := h2.two
    exact ⟨_, _, _, rfl, h1, h3, h4⟩
theorem RDs.ints (ns : List Int) : RDs K μ H (ns.map V.int) (ns.map D.int) := by
  induction ns with
  | nil => exact .nil
  | cons n r ih => exact .cons (.int n) ih
end

/-- what the text's top holds, for the clean names -/
structure Nms where
  kap : Nat → Option Addr
  kex : Nat → Option Addr
  nm : Nat → Str

/-- a dict's pairs: keys texts and numbers; tuples of such -/
inductive RK1 (K : PySem.W.Frag) (μ : Mu) (H : Hp) : List (Key × V) → List (D × D) → Prop
  | nil : RK1 K μ H [] []
  | cons {k : Key} {v : V} {kv : List (Key × V)} {d e : D} {kvs : List (D × D)} : key1 d = some k → RD K μ H (kV k) d → RD K μ H v e → RK1 K μ H kv kvs → RK1 K μ H ((k, v) :: kv) ((d, e) :: kvs)
inductive RKT (K : PySem.W.Frag) (μ : Mu) (H : Hp) : List (List Key × V) → List (D × D) → Prop
  | nil : RKT K μ H [] []
  | cons {k : List Key} {v : V} {kv : List (List Key × V)} {ds : List D} {e : D} {kvs : List (D × D)} : ds.mapM key1 = some k → RDs K μ H (k.map kV) ds → RD K μ H v e → RKT K μ H kv kvs → RKT K μ H ((k, v) :: kv) ((.tup ds, e) :: kvs)
inductive RF (nm : Nat → Str) (K : PySem.W.Frag) (μ : Mu) (H : Hp) : List (Str × V) → List (Nat × D) → Prop
  | nil : RF nm K μ H [] []
  | cons {f : Nat} {v : V} {fv : List (Str × V)} {d : D} {fs : List (Nat × D)} : RD K μ H v d → RF nm K μ H fv fs → RF nm K μ H ((nm f, v) :: fv) ((f, d) :: fs)

/-- an object of the store, at its address -/
def RO (N : Nms) (K : PySem.W.Frag) (μ : Mu) (H : Hp) (a : Addr) : Ob → Prop
  | .lst ds => ∃ vs, H a = some (.lst vs) ∧ RDs K μ H vs ds
  | .dic false false kvs => ∃ kv, H a = some (.dK kv) ∧ RK1 K μ H kv kvs
  | .dic false true kvs => ∃ o kv, H a = some (.frz o (.dK kv)) ∧ RK1 K μ H kv kvs
  | .dic true false kvs => ∃ kv, H a = some (.dT kv) ∧ RKT K μ H kv kvs
  | .dic true true kvs => ∃ o kv, H a = some (.frz o (.dT kv)) ∧ RKT K μ H kv kvs
  | .ins c fs => ∃ C dx fv, N.kap c = some C ∧ H a = some (.ins C dx fv) ∧ RF N.nm K μ H fv fs
/-- the store beside the abstract heap -/
structure Rel (N : Nms) (K : PySem.W.Frag) (μ : Mu) (S : Sto) (H : Hp) : Prop where
  at_ : ∀ r ob, S[r]? = some ob → ∃ a, μ r = some a ∧ RO N K μ H a ob
  inj : ∀ r q a, μ r = some a → μ q = some a → r = q
  dom : ∀ r a, μ r = some a → r < S.length
/-- a frame's names -/
structure RE (K : PySem.W.Frag) (μ : Mu) (H : Hp) (ρ : Env) (σ : St) : Prop where
  len : ρ.length = σ.length
  at_ : ∀ (i : Nat) (d : D), ρ[i]? = some (some d) → ∃ v, σ[i]? = some (some v) ∧ RD K μ H v d

section
variable {N : Nms} {K : PySem.W.Frag} {μ μ' : Mu} {S : Sto} {H H' : Hp}
theorem RK1.extw (e : Exw μ H μ' H') {kv : List (Key × V)} {kvs : List (D × D)} (h : RK1 K μ H kv kvs) : RK1 K μ' H' kv kvs := by
  induction h with
  | nil => exact .nil
  | cons h1 h0 h2 _ ih => exact .cons h1 (h0.extw e) (h2.extw e) ih
theorem RKT.extw (e : Exw μ H μ' H') {kv : List (List Key × V)} {kvs : List (D × D)} (h : RKT K μ H kv kvs) : RKT K μ' H' kv kvs := by
  induction h with
  | nil => exact .nil
  | cons h1 h0 h2 _ ih => exact .cons h1 (h0.extw e) (h2.extw e) ih
theorem RF.extw (e : Exw μ H μ' H') {nm : Nat → Str} {kv : List (Str × V)} {kvs : List (Nat × D)} (h : RF nm K μ H kv kvs) : RF nm K μ' H' kv kvs := by
  induction h with
  | nil => exact .nil
  | cons h1 _ ih => exact .cons (h1.extw e) ih
theorem RE.extw (e : Exw μ H μ' H') {ρ : Env} {σ : St} (h : RE K μ H ρ σ) : RE K μ' H' ρ σ :=
  ⟨h.len, fun i d z => let ⟨v, a, b⟩ := h.at_ i d z; ⟨v, a, b.extw e⟩⟩
theorem RK1.ext (e : Ext μ H μ' H') {kv : List (Key × V)} {kvs : List (D × D)} (h : RK1 K μ H kv kvs) : RK1 K μ' H' kv kvs := h.extw e.w
theorem RKT.ext (e : Ext μ H μ' H') {kv : List (List Key × V)} {kvs : List (D × D)} (h : RKT K μ H kv kvs) : RKT K μ' H' kv kvs := h.extw e.w
theorem RF.ext (e : Ext μ H μ' H') {nm : Nat → Str} {kv : List (Str × V)} {kvs : List (Nat × D)} (h : RF nm K μ H kv kvs) : RF nm K μ' H' kv kvs := h.extw e.w
theorem RE.ext (e : Ext μ H μ' H') {ρ : Env} {σ : St} (h : RE K μ H ρ σ) : RE K μ' H' ρ σ := h.extw e.w
theorem RE.set {ρ : Env} {σ : St} {i : Nat} {d : D} {v : V} (h : RE K μ H ρ σ) (r : RD K μ H v d) : RE K μ H (ρ.set i (some d)) (σ.set i (some v)) := by
  refine ⟨by simp [h.len], fun j x z => ?_⟩
  by_cases hj : i = j
  · subst hj
    by_cases hi : i < ρ.length
    · rw [List.getElem?_set_self hi] at z
      cases z
      exact ⟨v, List.getElem?_set_self (by rw [← h.len]; exact hi), r⟩
    · rw [List.getElem?_eq_none (by simp; omega)] at z; cases z
  · rw [List.getElem?_set_ne hj] at z ⊢
    exact h.at_ j x z
/-- an object that still stands at its address -/
theorem RO.ext (e : Ext μ H μ' H') {a : Addr} {ob : Ob} (h : RO N K μ H a ob) (s : ∀ o, H a = some o → Mut (some o) → H' a = some o) : RO N K μ' H' a ob := by
  cases ob with
  | lst ds => obtain ⟨vs, h1, h2⟩ := h; exact ⟨vs, s _ h1 trivial, h2.ext e⟩
  | dic t lk kvs =>
    cases t <;> cases lk
    · obtain ⟨kv, h1, h2⟩ := h; exact ⟨kv, s _ h1 trivial, h2.ext e⟩
    · obtain ⟨o, kv, h1, h2⟩ := h; exact ⟨o, kv, e.frz _ _ _ h1, h2.ext e⟩
    · obtain ⟨kv, h1, h2⟩ := h; exact ⟨kv, s _ h1 trivial, h2.ext e⟩
    · obtain ⟨o, kv, h1, h2⟩ := h; exact ⟨o, kv, e.frz _ _ _ h1, h2.ext e⟩
  | ins c fs => obtain ⟨C, dx, fv, h0, h1, h2⟩ := h; exact ⟨C, dx, fv, h0, s _ h1 trivial, h2.ext e⟩
/-- all tracked objects of the store may be written, or are locked, or only read -/
theorem Rel.get (R : Rel N K μ S H) {r : Nat} {ob : Ob} (h : S[r]? = some ob) : ∃ a, μ r = some a ∧ RO N K μ H a ob := R.at_ r ob h
theorem Rel.ref (R : Rel N K μ S H) {v : V} {r : Nat} {ob : Ob} (h : RD K μ H v (.ref r)) (e : S[r]? = some ob) : ∃ a, v = .ref a ∧ μ r = some a ∧ RO N K μ H a ob := by
  obtain ⟨a, rfl, h1⟩ := h.ref_inv
  obtain ⟨b, h2, h3⟩ := R.at_ r ob e
  rw [h1] at h2; cases h2
  exact ⟨a, rfl, h1, h3⟩
/-- an object of the store is written anew -/
theorem Rel.write (R : Rel N K μ S H) {r : Nat} {a : Addr} {o : HO} {ob : Ob} (h : μ r = some a) (m : Mut (H a)) (n : RO N K μ (upd H a o) a ob) : Rel N K μ (S.set r ob) (upd H a o) := by
  refine ⟨fun q x e => ?_, R.inj, fun q b e => by simpa using R.dom q b e⟩
  by_cases hq : r = q
  · subst hq
    by_cases hi : r < S.length
    · rw [List.getElem?_set_self hi] at e
      cases e
      exact ⟨a, h, n⟩
    · rw [List.getElem?_eq_none (by simp; omega)] at e; cases e
  · rw [List.getElem?_set_ne hq] at e
    obtain ⟨b, h1, h2⟩ := R.at_ q x e
    refine ⟨b, h1, h2.ext (Ext.upd (.inr m)) fun u z _ => ?_⟩
    have ne : b ≠ a := fun e' => hq (R.inj r q a h (e' ▸ h1))
    rw [upd_ne ne]
    exact z
theorem RO.there {a : Addr} {ob : Ob} (h : RO N K μ H a ob) : H a ≠ none := by
  cases ob with
  | lst ds => obtain ⟨vs, h1, _⟩ := h; rw [h1]; simp
  | dic t lk kvs =>
    cases t <;> cases lk
    · obtain ⟨_, h1, _⟩ := h; rw [h1]; simp
    · obtain ⟨_, _, h1, _⟩ := h; rw [h1]; simp
    · obtain ⟨_, h1, _⟩ := h; rw [h1]; simp
    · obtain ⟨_, _, h1, _⟩ := h; rw [h1]; simp
  | ins c fs => obtain ⟨_, _, _, _, h1, _⟩ := h; rw [h1]; simp
theorem Rel.fresh (R : Rel N K μ S H) {a : Addr} (h : H a = none) : ∀ r, μ r ≠ some a := fun r e => by
  have hr := R.dom r a e
  obtain ⟨b, h1, h2⟩ := R.at_ r S[r] (List.getElem?_eq_getElem hr)
  rw [e] at h1; cases h1
  exact h2.there h
/-- a new object -/
theorem Rel.push (R : Rel N K μ S H) {a : Addr} {o : HO} {ob : Ob} (hn : H a = none) (n : RO N K (muAdd μ S.length a) (upd H a o) a ob) : Rel N K (muAdd μ S.length a) (S ++ [ob]) (upd H a o) := by
  have fresh := R.fresh hn
  have ext : Ext μ H (muAdd μ S.length a) (upd H a o) := by
    have e := Ext.upd (μ := μ) (a := a) (o := o) (.inl hn)
    exact ⟨fun r b h => by rw [muAdd_old (Nat.ne_of_lt (R.dom r b h))]; exact h, e.tup, e.frz⟩
  refine ⟨fun q x e => ?_, fun r q b h1 h2 => ?_, fun r b h => ?_⟩
  · by_cases hq : q < S.length
    · rw [List.getElem?_append_left hq] at e
      obtain ⟨b, h1, h2⟩ := R.at_ q x e
      refine ⟨b, by rw [muAdd_old (Nat.ne_of_lt hq)]; exact h1, h2.ext ext fun u z _ => ?_⟩
      have ne : b ≠ a := fun e' => fresh q (e' ▸ h1)
      rw [upd_ne ne]
      exact z
    · have hq' : q = S.length := by
        have := (List.getElem?_eq_some_iff.mp e).1
        simp at this; omega
      subst hq'
      rw [List.getElem?_append_right (Nat.le_refl _)] at e
      simp at e
      subst e
      exact ⟨a, muAdd_self, n⟩
  · by_cases hr : r = S.length <;> by_cases hq : q = S.length
    · rw [hr, hq]
    · subst hr
      rw [muAdd_self] at h1; cases h1
      rw [muAdd_old hq] at h2
      exact absurd h2 (fresh q)
    · subst hq
      rw [muAdd_self] at h2; cases h2
      rw [muAdd_old hr] at h1
      exact absurd h1 (fresh r)
    · rw [muAdd_old hr] at h1
      rw [muAdd_old hq] at h2
      exact R.inj r q b h1 h2
  · by_cases hr : r = S.length
    · rw [hr]; simp
    · rw [muAdd_old hr] at h
      have := R.dom r b h
      simp; omega
theorem Rel.pushExt (R : Rel N K μ S H) {a : Addr} {o : HO} (hn : H a = none) : Ext μ H (muAdd μ S.length a) (upd H a o) := by
  have e := Ext.upd (μ := μ) (a := a) (o := o) (.inl hn)
  exact ⟨fun r b h => by rw [muAdd_old (Nat.ne_of_lt (R.dom r b h))]; exact h, e.tup, e.frz⟩
/-- a world goes on where an address that no place has is written -/
theorem Rel.other (R : Rel N K μ S H) {a : Addr} {o : HO} (fresh : ∀ r, μ r ≠ some a) (hm : H a = none ∨ Mut (H a)) : Rel N K μ S (upd H a o) := by
  refine ⟨fun q x e => ?_, R.inj, R.dom⟩
  obtain ⟨b, h1, h2⟩ := R.at_ q x e
  refine ⟨b, h1, h2.ext (Ext.upd hm) fun u z _ => ?_⟩
  have ne : b ≠ a := fun e' => fresh q (e' ▸ h1)
  rw [upd_ne ne]
  exact z
theorem RO.move (e : Exw μ H μ' H') {a : Addr} {ob : Ob} (h : RO N K μ H a ob) (s : H' a = H a) : RO N K μ' H' a ob := by
  cases ob with
  | lst ds => obtain ⟨vs, h1, h2⟩ := h; exact ⟨vs, s.trans h1, h2.extw e⟩
  | dic t lk kvs =>
    cases t <;> cases lk
    · obtain ⟨kv, h1, h2⟩ := h; exact ⟨kv, s.trans h1, h2.extw e⟩
    · obtain ⟨o, kv, h1, h2⟩ := h; exact ⟨o, kv, s.trans h1, h2.extw e⟩
    · obtain ⟨kv, h1, h2⟩ := h; exact ⟨kv, s.trans h1, h2.extw e⟩
    · obtain ⟨o, kv, h1, h2⟩ := h; exact ⟨o, kv, s.trans h1, h2.extw e⟩
  | ins c fs => obtain ⟨C, dx, fv, h0, h1, h2⟩ := h; exact ⟨C, dx, fv, h0, s.trans h1, h2.extw e⟩
/-- a dict that was walked may be written again -/
def isDic : HO → Prop
  | .dK _ => True
  | .dT _ => True
  | _ => False
theorem Exw.unlock {a : Addr} {o : Obj} {u : HO} (h : H a = some (.frz o u)) (hu : isDic u) : Exw μ H μ (upd H a u) := by
  refine ⟨fun _ _ h => h, fun b xs e => ?_, fun b ob xs e => ?_⟩
  · by_cases hb : b = a
    · subst hb; rw [h] at e; cases e
    · rw [upd_ne hb]; exact e
  · by_cases hb : b = a
    · subst hb; rw [h] at e; cases e; exact hu.elim
    · rw [upd_ne hb]; exact e
theorem Rel.unlock (R : Rel N K μ S H) {r : Nat} {a : Addr} {o : Obj} {u : HO} {ob : Ob} (h : μ r = some a) (hl : H a = some (.frz o u)) (hu : isDic u) (n : RO N K μ (upd H a u) a ob) : Rel N K μ (S.set r ob) (upd H a u) := by
  refine ⟨fun q x e => ?_, R.inj, fun q b e => by simpa using R.dom q b e⟩
  by_cases hq : r = q
  · subst hq
    by_cases hi : r < S.length
    · rw [List.getElem?_set_self hi] at e
      cases e
      exact ⟨a, h, n⟩
    · rw [List.getElem?_eq_none (by simp; omega)] at e; cases e
  · rw [List.getElem?_set_ne hq] at e
    obtain ⟨b, h1, h2⟩ := R.at_ q x e
    have ne : b ≠ a := fun e' => hq (R.inj r q a h (e' ▸ h1))
    exact ⟨b, h1, h2.move (Exw.unlock hl hu) (upd_ne ne)⟩
end
end Mp
namespace Mp
open PySem L2

/-- the text's top, by clean names: N names and classes, T constants and classes' members, F the defs, adr their addresses -/
structure Gl where
  N : Nms
  T : Tab
  F : Nat → Option Df
  adr : Nat → Option Addr

/-- a wish of the abstract heap, told of clean data -/
def LQ (N : Nms) (K : PySem.W.Frag) (μ : Mu) (H : Hp) (Q : VK) : PQ := fun d S' => ∀ μ' H' v, Ext μ H μ' H' → Rel N K μ' S' H' → RD K μ' H' v d → Q v H'
def LX (N : Nms) (K : PySem.W.Frag) (μ : Mu) (H : Hp) (E : XK) : PX := fun c S' => ∀ μ' H' C, Ext μ H μ' H' → Rel N K μ' S' H' → N.kex c = some C → E (.ref C) none H'
/-- what a def promises: what its clean body does -/
def spOf (G : Gl) (K : PySem.W.Frag) (k : Nat) (f : Nat) : Sp := fun vs H Q E => ∃ μ S ds, Rel G.N K μ S H ∧ RDs K μ H vs ds ∧ wpCall G.T G.F k f ds S (LQ G.N K μ H Q) (LX G.N K μ H E)

/-- exceptions around: W what is wished of them, EX what the clean code says of them -/
structure Sx (G : Gl) (K : PySem.W.Frag) (W : WX) where
  μ0 : Mu
  H0 : Hp
  EX : PX
  P : Mu → Hp → St → Prop
  mono : ∀ {μ H μ' H' σ}, Ext μ H μ' H' → P μ H σ → P μ' H' σ
  ok : ∀ c S' μ' H' σ' C, EX c S' → Ext μ0 H0 μ' H' → Rel G.N K μ' S' H' → P μ' H' σ' → G.N.kex c = some C → W (.ref C) none σ' H'
/-- no exception at all -/
def Sx.none_ (G : Gl) (K : PySem.W.Frag) (W : WX) (μ : Mu) (H : Hp) : Sx G K W where
  μ0 := μ
  H0 := H
  EX := fun _ _ => False
  P := fun _ _ _ => True
  mono := fun _ _ => trivial
  ok := fun _ _ _ _ _ _ h => h.elim

abbrev M := Env → Sto → PQ → PX → Prop
abbrev Ms := Env → Sto → (List D → Sto → Prop) → PX → Prop
def MonoM (m : M) : Prop := ∀ ρ S Q Q' EX EX', (∀ d S', Q d S' → Q' d S') → (∀ k S', EX k S' → EX' k S') → m ρ S Q EX → m ρ S Q' EX'
def MonoMs (m : Ms) : Prop := ∀ ρ S Q Q' EX EX', (∀ d S', Q d S' → Q' d S') → (∀ k S', EX k S' → EX' k S') → m ρ S Q EX → m ρ S Q' EX'

section
variable {G : Gl} {K : PySem.W.Frag} {W : WX}
/-- a world: the clean frame and store beside the slots and the abstract heap -/
structure Wd (x : Sx G K W) (σ : St) (H : Hp) (μ : Mu) (S : Sto) (ρ : Env) : Prop where
  ext : Ext x.μ0 x.H0 μ H
  rel : Rel G.N K μ S H
  re : RE K μ H ρ σ
  p : x.P μ H σ
theorem Wd.next {x : Sx G K W} {σ : St} {H H' : Hp} {μ μ' : Mu} {S S' : Sto} {ρ : Env} (w : Wd x σ H μ S ρ) (e : Ext μ H μ' H') (r : Rel G.N K μ' S' H') : Wd x σ H' μ' S' ρ :=
  ⟨w.ext.trans e, r, w.re.ext e, x.mono e w.p⟩
/-- the reading of a term -/
def LE (x : Sx G K W) (m : M) : TE := fun σ H Q => ∃ μ S ρ, Wd x σ H μ S ρ ∧ m ρ S (LQ G.N K μ H Q) x.EX
def LT (x : Sx G K W) (m : M) : TT := fun σ H Q => ∃ μ S ρ, Wd x σ H μ S ρ ∧ m ρ S (fun d S' => match d with
  | .bl b => ∀ μ' H', Ext μ H μ' H' → Rel G.N K μ' S' H' → Q b H'
  | _ => False) x.EX
def LA (x : Sx G K W) (m : Ms) : TA := fun σ H Q => ∃ μ S ρ, Wd x σ H μ S ρ ∧ m ρ S (fun ds S' => ∀ μ' H' vs, Ext μ H μ' H' → Rel G.N K μ' S' H' → RDs K μ' H' vs ds → Q vs H') x.EX
theorem bindW {x : Sx G K W} {ma : M} (hm : MonoM ma) {σ : St} {H : Hp} {μ : Mu} {S : Sto} {ρ : Env} {k : D → Sto → Prop} {R : VK} (wd : Wd x σ H μ S ρ) (h : ma ρ S k x.EX)
    (hR : ∀ v H1 μ1 S1 d, Ext μ H μ1 H1 → Wd x σ H1 μ1 S1 ρ → RD K μ1 H1 v d → k d S1 → R v H1) : LE x ma σ H R :=
  ⟨μ, S, ρ, wd, hm _ _ _ _ _ _ (fun d S1 q μ1 H1 v e r rd => hR v H1 μ1 S1 d e (wd.next e r) rd q) (fun _ _ z => z) h⟩
theorem bindA {x : Sx G K W} {ma : Ms} (hm : MonoMs ma) {σ : St} {H : Hp} {μ : Mu} {S : Sto} {ρ : Env} {k : List D → Sto → Prop} {R : List V → Hp → Prop} (wd : Wd x σ H μ S ρ) (h : ma ρ S k x.EX)
    (hR : ∀ vs H1 μ1 S1 ds, Ext μ H μ1 H1 → Wd x σ H1 μ1 S1 ρ → RDs K μ1 H1 vs ds → k ds S1 → R vs H1) : LA x ma σ H R :=
  ⟨μ, S, ρ, wd, hm _ _ _ _ _ _ (fun d S1 q μ1 H1 v e r rd => hR v H1 μ1 S1 d e (wd.next e r) rd q) (fun _ _ z => z) h⟩
theorem bindT {x : Sx G K W} {ma : M} (hm : MonoM ma) {σ : St} {H : Hp} {μ : Mu} {S : Sto} {ρ : Env} {k : D → Sto → Prop} {R : Bool → Hp → Prop} (wd : Wd x σ H μ S ρ) (h : ma ρ S k x.EX)
    (hB : ∀ d S1, k d S1 → ∃ b, d = .bl b) (hR : ∀ b H1 μ1 S1, Ext μ H μ1 H1 → Wd x σ H1 μ1 S1 ρ → k (.bl b) S1 → R b H1) : LT x ma σ H R :=
  ⟨μ, S, ρ, wd, hm _ _ _ _ _ _ (fun d S1 q => by
    obtain ⟨b, rfl⟩ := hB d S1 q
    exact fun μ1 H1 e r => hR b H1 μ1 S1 e (wd.next e r) q) (fun _ _ z => z) h⟩
end

theorem _root_.L2.PE.imp {X : Cx} {e : Expr} {t t' : TE} (h : PE X e t) (i : ∀ σ H Q, t' σ H Q → t σ H Q) : PE X e t' := ⟨fun pins s σ H Q I q => h.run pins s σ H Q I (i _ _ _ q)⟩
theorem _root_.L2.PT.imp {X : Cx} {e : Expr} {t t' : TT} (h : PT X e t) (i : ∀ σ H Q, t' σ H Q → t σ H Q) : PT X e t' := ⟨fun pins s σ H Q I q => h.run pins s σ H Q I (i _ _ _ q)⟩
theorem _root_.L2.PW.imp {X : Cx} {e : Expr} {t t' : TT} (h : PW X e t) (i : ∀ σ H Q, t' σ H Q → t σ H Q) : PW X e t' := ⟨fun wh pins s σ H Q I q => h.run wh pins s σ H Q I (i _ _ _ q)⟩
theorem _root_.L2.PA.imp {X : Cx} {e : List Expr} {t t' : TA} (h : PA X e t) (i : ∀ σ H Q, t' σ H Q → t σ H Q) : PA X e t' := ⟨fun pos pins s σ H Q I q => h.run pos pins s σ H Q I (i _ _ _ q)⟩
theorem _root_.L2.PS.imp {X : Cx} {e : Stmt} {t t' : TS} (h : PS X e t) (i : ∀ σ H D, t' D σ H → t D σ H) : PS X e t' := ⟨fun pins s σ H D I q => h.run pins s σ H D I (i _ _ _ q)⟩
theorem _root_.L2.PSs.imp {X : Cx} {e : List Stmt} {t t' : TS} (h : PSs X e t) (i : ∀ σ H D, t' D σ H → t D σ H) : PSs X e t' := ⟨fun pins s σ H D I q => h.run pins s σ H D I (i _ _ _ q)⟩
theorem _root_.L2.PI.imp {X : Cx} {tg e : Expr} {t t' : TI} (h : PI X tg e t) (i : ∀ σ H Q, t' σ H Q → t σ H Q) : PI X tg e t' := ⟨fun pins s σ H R I q => h.run pins s σ H R I (i _ _ _ q)⟩

section
variable {G : Gl} {X : Cx} {C : Calls} {hx : Option Nat}
abbrev mE (G : Gl) (C : Calls) (hx : Option Nat) (e : Tm) : M := fun ρ S Q EX => wpE G.T C hx e ρ S Q EX
abbrev mEs (G : Gl) (C : Calls) (hx : Option Nat) (e : Tms) : Ms := fun ρ S Q EX => wpEs G.T C hx e ρ S Q EX
theorem monoE (hC : MonoC C) (e : Tm) : MonoM (mE G C hx e) := fun ρ S Q Q' EX EX' hQ hX h => wpE_mono hC e ρ S Q Q' EX EX' hQ hX h
theorem monoEs (hC : MonoC C) (e : Tms) : MonoMs (mEs G C hx e) := fun ρ S Q Q' EX EX' hQ hX h => wpEs_mono hC e ρ S Q Q' EX EX' hQ hX h
/-- the rule of a term: in any surroundings -/
def CE (G : Gl) (C : Calls) (hx : Option Nat) (X : Cx) (e : Expr) (m : Tm) : Prop := ∀ (W : WX) (_ : Takes X W) (x : Sx G X.K W), PE X e (LE x (mE G C hx m))
def CT (G : Gl) (C : Calls) (hx : Option Nat) (X : Cx) (e : Expr) (m : Tm) : Prop := ∀ (W : WX) (_ : Takes X W) (x : Sx G X.K W), PT X e (LT x (mE G C hx m))
def CW (G : Gl) (C : Calls) (hx : Option Nat) (X : Cx) (e : Expr) (m : Tm) : Prop := ∀ (W : WX) (_ : Takes X W) (x : Sx G X.K W), PW X e (LT x (mE G C hx m))
/-- terms one by one -/
inductive CEs (G : Gl) (C : Calls) (hx : Option Nat) (X : Cx) : List Expr → Tms → Prop
  | nil : CEs G C hx X [] .nil
  | cons {e : Expr} {es : List Expr} {m : Tm} {ms : Tms} : CE G C hx X e m → (∀ (y : Expr) (p : Pos), e ≠ .Starred y p) → CEs G C hx X es ms → CEs G C hx X (e :: es) (.cons m ms)
theorem starEach_cons {e : Expr} (h : ∀ (y : Expr) (p : Pos), e ≠ .Starred y p) (es : List Expr) (env : PySem.Env) : starEach (e :: es) env = (false, eval e env) :: starEach es env := by
  cases e <;> first | rfl | (exact absurd rfl (h _ _))
theorem CEs.pa (hC : MonoC C) {es : List Expr} {ms : Tms} (h : CEs G C hx X es ms) {W : WX} (tk : Takes X W) (x : Sx G X.K W) : PA X es (LA x (mEs G C hx ms)) := by
  induction h with
  | nil => exact pa_nil.imp fun σ H Q ⟨μ, S, ρ, wd, q⟩ => q μ H [] (Ext.refl _ _) wd.rel .nil
  | @cons e es m ms h1 hs h2 ih =>
    refine (pa_cons (h1 W tk x) ih (starEach_cons hs _ _)).imp fun σ H Q ⟨μ, S, ρ, wd, q⟩ => ?_
    refine bindW (monoE hC m) wd q fun v H1 μ1 S1 d e1 w1 r1 q1 => ?_
    refine bindA (monoEs hC ms) w1 q1 fun vs H2 μ2 S2 ds e2 w2 r2 q2 => ?_
    exact q2 μ2 H2 (v :: vs) (e1.trans e2) w2.rel (.cons (r1.ext e2) r2)

/-! ### names, constants -/
theorem ce_var {i : Nat} {y : Str} {pos : Pos} (hN : X.N[i]? = some y) (hv : Vis X.env.scope y) (hd : (y == ("__debug__" : Str)) = false) (hcd : (y == ("__classdict__" : Str)) = false) : CE G C hx X (.Name y pos) (.var i) := fun W _ x =>
  (pe_var hN hv hd hcd).imp fun σ H Q ⟨μ, S, ρ, wd, q⟩ => by
    simp only [wpE] at q
    split at q
    · rename_i d e
      obtain ⟨v, h1, h2⟩ := wd.re.at_ i d e
      exact ⟨v, h1, q μ H v (Ext.refl _ _) wd.rel h2⟩
    · exact q.elim
theorem ce_const {c : Const} {d : D} {j : Nat} {pos : Pos} (v : V) (h : PE X (.Constant c j pos) (tC v)) (r : ∀ μ H, RD X.K μ H v d) : CE G C hx X (.Constant c j pos) (.cst d) := fun W _ x =>
  h.imp fun σ H Q ⟨μ, S, ρ, wd, q⟩ => q μ H v (Ext.refl _ _) wd.rel (r μ H)
theorem ce_int {i : Int} {j : Nat} {pos : Pos} : CE G C hx X (.Constant (.int i) j pos) (.cst (.int i)) := ce_const (.int i) pe_int fun _ _ => .int i
theorem ce_bl {i : Bool} {j : Nat} {pos : Pos} : CE G C hx X (.Constant (.bool i) j pos) (.cst (.bl i)) := ce_const (.bl i) pe_bl fun _ _ => .bl i
theorem ce_non {j : Nat} {pos : Pos} : CE G C hx X (.Constant .none j pos) (.cst .non) := ce_const .non pe_non fun _ _ => .non
theorem ce_str {y : Str} {j : Nat} {pos : Pos} {s : List Nat} (h : y.cps.toList = s) (hb : s.all (· < 0x110000) = true) : CE G C hx X (.Constant (.str y) j pos) (.cst (.str s)) := ce_const (.str y) pe_str fun _ _ => by
  subst h; exact .strOf y (.of hb)
theorem ce_glob {y : Str} {pos : Pos} {g : Nat} {d : D} {v : V} (hg : L2.Gl X y) (hm : ∃ u, X.mg y = some u ∧ RelV v u) (r : ∀ μ H, RD X.K μ H v d) (hc : G.T.con g = some d) (hd : (y == ("__debug__" : Str)) = false) : CE G C hx X (.Name y pos) (.glob g) := fun W _ x => by
  obtain ⟨u, hu, ru⟩ := hm
  exact (pe_glob (v := v) hg hu ru hd).imp fun σ H Q ⟨μ, S, ρ, wd, q⟩ => by
    simp only [wpE, hc] at q
    exact q μ H _ (Ext.refl _ _) wd.rel (r μ H)

/-! ### operators by values -/
/-- a rule of values says what the clean operator does -/
def VOk (G : Gl) (K : PySem.W.Frag) (o : Op) (r : List V → Hp → VK → Prop) : Prop :=
  ∀ (μ0 : Mu) (H0 : Hp) (μ : Mu) (S : Sto) (H : Hp) (vs : List V) (ds : List D) (Q : VK), Ext μ0 H0 μ H → Rel G.N K μ S H → RDs K μ H vs ds → opD G.T o ds S (LQ G.N K μ0 H0 Q) → r vs H Q
/-- .. of two -/
def VOk2 (G : Gl) (K : PySem.W.Frag) (o : Op) (r : R2) : Prop := VOk G K o fun vs H Q => ∀ x y, vs = [x, y] → r x y H Q
def VOk1 (G : Gl) (K : PySem.W.Frag) (o : Op) (r : V → Hp → VK → Prop) : Prop := VOk G K o fun vs H Q => ∀ x, vs = [x] → r x H Q
theorem ce_bin (hC : MonoC C) {o : Op} {bop : Operator} {r : R2} {a b : Expr} {ma mb : Tm} {pos : Pos} (ho : OpR X (binaryOp bop) r) (hv : VOk2 G X.K o r)
    (ha : CE G C hx X a ma) (hb : CE G C hx X b mb) : CE G C hx X (.BinOp a bop b pos) (.op o (.cons ma (.cons mb .nil))) := fun W tk x => by
  refine (pe_op ho (ha W tk x) (hb W tk x)).imp fun σ H Q ⟨μ, S, ρ, wd, q⟩ => ?_
  refine bindW (monoE hC ma) wd q fun v H1 μ1 S1 d e1 w1 r1 q1 => ?_
  refine bindW (monoE hC mb) w1 q1 fun u H2 μ2 S2 d' e2 w2 r2 q2 => ?_
  exact hv μ H μ2 S2 H2 [v, u] [d, d'] Q (e1.trans e2) w2.rel (.cons (r1.ext e2) (.cons r2 .nil)) q2 v u rfl
theorem ce_un (hC : MonoC C) {o : Op} {uop : UnaryOp} {r : V → Hp → VK → Prop} {a : Expr} {ma : Tm} {pos : Pos} (ho : UnR X (unaryOp uop) r) (hv : VOk1 G X.K o r)
    (ha : CE G C hx X a ma) : CE G C hx X (.UnaryOp uop a pos) (.op o (.cons ma .nil)) := fun W tk x => by
  refine (pe_un ho (ha W tk x)).imp fun σ H Q ⟨μ, S, ρ, wd, q⟩ => ?_
  refine bindW (monoE hC ma) wd q fun v H1 μ1 S1 d e1 w1 r1 q1 => ?_
  exact hv μ H μ1 S1 H1 [v] [d] Q e1 w1.rel (.cons r1 .nil) q1 v rfl
/-- clean operators whose answer is True or False -/
def BoolOp_ (T : Tab) (o : Op) : Prop := ∀ ds S d S', opF T o ds S = some (d, S') → ∃ b, d = .bl b
theorem opD_bl {T : Tab} {o : Op} {ds : List D} {S : Sto} {Q : PQ} (hb : BoolOp_ T o) (h : opD T o ds S Q) : opD T o ds S fun d S' => (∃ b, d = .bl b) ∧ Q d S' := by
  unfold opD at h ⊢
  cases e : opF T o ds S with
  | none => rw [e] at h; exact h.elim
  | some p => rw [e] at h; exact ⟨hb _ _ _ _ e, h⟩
theorem ce_cmp (hC : MonoC C) {o : Op} {cop : CmpOp} {r : R2} {a b : Expr} {ma mb : Tm} {pos : Pos} (ho : OpR X (compareOp cop) r) (hv : VOk2 G X.K o r)
    (ha : CE G C hx X a ma) (hb : CE G C hx X b mb) (hm : behindInMarks cop b = false) : CE G C hx X (.Compare a [cop] [b] pos) (.op o (.cons ma (.cons mb .nil))) := fun W tk x => by
  refine (pe_cmpR ho (ha W tk x) (hb W tk x) hm).imp fun σ H Q ⟨μ, S, ρ, wd, q⟩ => ?_
  refine bindW (monoE hC ma) wd q fun v H1 μ1 S1 d e1 w1 r1 q1 => ?_
  refine bindW (monoE hC mb) w1 q1 fun u H2 μ2 S2 d' e2 w2 r2 q2 => ?_
  exact hv μ H μ2 S2 H2 [v, u] [d, d'] Q (e1.trans e2) w2.rel (.cons (r1.ext e2) (.cons r2 .nil)) q2 v u rfl
theorem ct_cmp (hC : MonoC C) {o : Op} {cop : CmpOp} {r : R2} {a b : Expr} {ma mb : Tm} {pos : Pos} (ho : OpR X (compareOp cop) r) (hv : VOk2 G X.K o r)
    (ha : CE G C hx X a ma) (hb : CE G C hx X b mb) (hm : behindInMarks cop b = false) : CT G C hx X (.Compare a [cop] [b] pos) (.op o (.cons ma (.cons mb .nil))) := fun W tk x => by
  refine (pt_cmpR ho (ha W tk x) (hb W tk x) hm).imp fun σ H Q ⟨μ, S, ρ, wd, q⟩ => ?_
  refine bindW (monoE hC ma) wd q fun v H1 μ1 S1 d e1 w1 r1 q1 => ?_
  refine bindW (monoE hC mb) w1 q1 fun u H2 μ2 S2 d' e2 w2 r2 q2 => ?_
  refine hv μ H μ2 S2 H2 [v, u] [d, d'] _ (e1.trans e2) w2.rel (.cons (r1.ext e2) (.cons r2 .nil)) (opD_mono q2 fun z S3 q3 => ?_) v u rfl
  cases z with
  | bl k => exact fun μ3 H3 v3 e3 r3 rd => ⟨k, rd.bl_inv, q3 μ3 H3 e3 r3⟩
  | _ => exact q3.elim
/-- a value as a test -/
theorem ct_val {e : Expr} {m : Tm} (h : CE G C hx X e m) (he : ∀ whole, isTrue e X.env whole = (do let v ← whole; standAt e.pos; holding [v] (truthy v)))
    (hC : MonoC C) : CT G C hx X e m := fun W tk x => by
  refine (pt_val (h W tk x) he).imp fun σ H Q ⟨μ, S, ρ, wd, q⟩ => ?_
  refine bindW (monoE hC m) wd q fun v H1 μ1 S1 d e1 w1 r1 q1 => ?_
  cases d with
  | bl k => exact ⟨k, r1.bl_inv, q1 μ1 H1 e1 w1.rel⟩
  | _ => exact q1.elim
theorem ct_not (hC : MonoC C) {a : Expr} {ma : Tm} {pos : Pos} (ha : CT G C hx X a ma) : CT G C hx X (.UnaryOp .Not a pos) (.op .bnot (.cons ma .nil)) := fun W tk x => by
  refine (pt_not (ha W tk x)).imp fun σ H Q ⟨μ, S, ρ, wd, q⟩ => ?_
  refine bindT (monoE hC ma) wd q (fun d S1 q1 => ?_) fun b H1 μ1 S1 e1 w1 q1 => q1 μ1 H1 e1 w1.rel
  cases d with
  | bl b => exact ⟨b, rfl⟩
  | _ => exact q1.elim
theorem ce_not (hC : MonoC C) {a : Expr} {ma : Tm} {pos : Pos} (ha : CE G C hx X a ma) : CE G C hx X (.UnaryOp .Not a pos) (.op .bnot (.cons ma .nil)) := fun W tk x => by
  refine (pe_not (ha W tk x)).imp fun σ H Q ⟨μ, S, ρ, wd, q⟩ => ?_
  refine bindW (monoE hC ma) wd q fun v H1 μ1 S1 d e1 w1 r1 q1 => ?_
  cases d with
  | bl b => exact ⟨b, r1.bl_inv, q1 μ1 H1 _ e1 w1.rel (.bl _)⟩
  | _ => exact q1.elim
/-! ### and, or -/
theorem CW.ct {e : Expr} {m : Tm} (h : CW G C hx X e m) : CT G C hx X e m := fun W tk x => (h W tk x).pt
theorem cw_and1 {a : Expr} {ma : Tm} {pos : Pos} (ha : CT G C hx X a ma) : CW G C hx X (.BoolOp .And [a] pos) ma := fun W tk x => pw_and1 (ha W tk x)
theorem cw_or1 {a : Expr} {ma : Tm} {pos : Pos} (ha : CT G C hx X a ma) : CW G C hx X (.BoolOp .Or [a] pos) ma := fun W tk x => pw_or1 (ha W tk x)
theorem cw_and (hC : MonoC C) {a b : Expr} {rest : List Expr} {ma mb : Tm} {pos : Pos} (ha : CT G C hx X a ma) (hb : CW G C hx X (.BoolOp .And (b :: rest) pos) mb) : CW G C hx X (.BoolOp .And (a :: b :: rest) pos) (.and ma mb) := fun W tk x => by
  refine (pw_and (ha W tk x) (hb W tk x)).imp fun σ H Q ⟨μ, S, ρ, wd, q⟩ => ?_
  refine bindT (monoE hC ma) wd q (fun d S1 q1 => ?_) fun b H1 μ1 S1 e1 w1 q1 => ?_
  · cases d with
    | bl b => exact ⟨b, rfl⟩
    | _ => exact q1.elim
  · cases b with
    | true =>
      rw [if_pos rfl]
      refine ⟨μ1, S1, ρ, w1, monoE hC mb _ _ _ _ _ _ (fun d S2 q2 => ?_) (fun _ _ z => z) q1⟩
      cases d with
      | bl b => exact fun μ2 H2 e2 r2 => q2 μ2 H2 (e1.trans e2) r2
      | _ => exact q2.elim
    | false => rw [if_neg Bool.false_ne_true]; exact q1 μ1 H1 e1 w1.rel
theorem cw_or (hC : MonoC C) {a b : Expr} {rest : List Expr} {ma mb : Tm} {pos : Pos} (ha : CT G C hx X a ma) (hb : CW G C hx X (.BoolOp .Or (b :: rest) pos) mb) : CW G C hx X (.BoolOp .Or (a :: b :: rest) pos) (.or ma mb) := fun W tk x => by
  refine (pw_or (ha W tk x) (hb W tk x)).imp fun σ H Q ⟨μ, S, ρ, wd, q⟩ => ?_
  refine bindT (monoE hC ma) wd q (fun d S1 q1 => ?_) fun b H1 μ1 S1 e1 w1 q1 => ?_
  · cases d with
    | bl b => exact ⟨b, rfl⟩
    | _ => exact q1.elim
  · cases b with
    | false =>
      rw [if_neg Bool.false_ne_true]
      refine ⟨μ1, S1, ρ, w1, monoE hC mb _ _ _ _ _ _ (fun d S2 q2 => ?_) (fun _ _ z => z) q1⟩
      cases d with
      | bl b => exact fun μ2 H2 e2 r2 => q2 μ2 H2 (e1.trans e2) r2
      | _ => exact q2.elim
    | true => rw [if_pos rfl]; exact q1 μ1 H1 e1 w1.rel
theorem ce_one {op : PySem.BoolOp} {a : Expr} {ma : Tm} {pos : Pos} (ha : CE G C hx X a ma) : CE G C hx X (.BoolOp op [a] pos) ma := fun W tk x => pe_one (ha W tk x)
theorem ce_and (hC : MonoC C) {a b : Expr} {rest : List Expr} {ma mb : Tm} {pos : Pos} (ha : CE G C hx X a ma) (hb : CE G C hx X (.BoolOp .And (b :: rest) pos) mb) : CE G C hx X (.BoolOp .And (a :: b :: rest) pos) (.and ma mb) := fun W tk x => by
  refine (pe_and (ha W tk x) (hb W tk x)).imp fun σ H Q ⟨μ, S, ρ, wd, q⟩ => ?_
  refine bindW (monoE hC ma) wd q fun v H1 μ1 S1 d e1 w1 r1 q1 => ?_
  cases d with
  | bl b =>
    refine ⟨b, r1.bl_inv, ?_⟩
    cases b with
    | true => rw [if_pos rfl]; exact bindW (monoE hC mb) w1 q1 fun v H2 μ2 S2 d e2 w2 r2 q2 => q2 μ2 H2 v (e1.trans e2) w2.rel r2
    | false => rw [if_neg Bool.false_ne_true]; exact q1 μ1 H1 _ e1 w1.rel (.bl _)
  | _ => exact q1.elim
theorem ce_or (hC : MonoC C) {a b : Expr} {rest : List Expr} {ma mb : Tm} {pos : Pos} (ha : CE G C hx X a ma) (hb : CE G C hx X (.BoolOp .Or (b :: rest) pos) mb) : CE G C hx X (.BoolOp .Or (a :: b :: rest) pos) (.or ma mb) := fun W tk x => by
  refine (pe_or (ha W tk x) (hb W tk x)).imp fun σ H Q ⟨μ, S, ρ, wd, q⟩ => ?_
  refine bindW (monoE hC ma) wd q fun v H1 μ1 S1 d e1 w1 r1 q1 => ?_
  cases d with
  | bl b =>
    refine ⟨b, r1.bl_inv, ?_⟩
    cases b with
    | false => rw [if_neg Bool.false_ne_true]; exact bindW (monoE hC mb) w1 q1 fun v H2 μ2 S2 d e2 w2 r2 q2 => q2 μ2 H2 v (e1.trans e2) w2.rel r2
    | true => rw [if_pos rfl]; exact q1 μ1 H1 _ e1 w1.rel (.bl _)
  | _ => exact q1.elim
theorem ce_chain (hC : MonoC C) {o1 o2 : Op} {op op' : CmpOp} {r r' : R2} {a b c : Expr} {ma mb mc : Tm} {pos : Pos} (ho : OpR X (compareOp op) r) (ho' : OpR X (compareOp op') r') (hv : VOk2 G X.K o1 r) (hv' : VOk2 G X.K o2 r')
    (ha : CE G C hx X a ma) (hb : CE G C hx X b mb) (hc : CE G C hx X c mc) (hm : lastMarks [op, op'] [b, c] = false) : CE G C hx X (.Compare a [op, op'] [b, c] pos) (.chain o1 o2 ma mb mc) := fun W tk x => by
  refine (pe_chain ho ho' (ha W tk x) (hb W tk x) (hc W tk x) hm).imp fun σ H Q ⟨μ, S, ρ, wd, q⟩ => ?_
  refine bindW (monoE hC ma) wd q fun v H1 μ1 S1 d e1 w1 r1 q1 => ?_
  refine bindW (monoE hC mb) w1 q1 fun u H2 μ2 S2 d' e2 w2 r2 q2 => ?_
  refine hv μ2 H2 μ2 S2 H2 [v, u] [d, d'] _ (Ext.refl _ _) w2.rel (.cons (r1.ext e2) (.cons r2 .nil)) (opD_mono q2 fun z S3 q3 => ?_) v u rfl
  cases z with
  | bl k =>
    intro μ3 H3 v3 e3 rel3 rd
    refine ⟨k, rd.bl_inv, ?_⟩
    cases k with
    | false => rw [if_neg Bool.false_ne_true]; exact q3 μ3 H3 _ ((e1.trans e2).trans e3) rel3 (.bl _)
    | true =>
      rw [if_pos rfl]
      refine bindW (monoE hC mc) (w2.next e3 rel3) q3 fun w H4 μ4 S4 d4 e4 w4 r4 q4 => ?_
      exact hv' μ H μ4 S4 H4 [u, w] [d', d4] Q (((e1.trans e2).trans e3).trans e4) w4.rel (.cons ((r2.ext e3).ext e4) (.cons r4 .nil)) q4 u w rfl
  | _ => exact q3.elim
end
end Mp
namespace Mp
open PySem L2 SX

section
variable {G : Gl} {K : PySem.W.Frag} {μ μ0 : Mu} {S : Sto} {H H0 : Hp} {Q : VK}
theorem RDs.inv2 {x y : V} {ds : List D} (h : RDs K μ H [x, y] ds) : ∃ d d', ds = [d, d'] ∧ RD K μ H x d ∧ RD K μ H y d' := by
  cases h with
  | cons h1 h2 => cases h2 with
    | cons h3 h4 => cases h4; exact ⟨_, _, rfl, h1, h3⟩
theorem RDs.inv1 {x : V} {ds : List D} (h : RDs K μ H [x] ds) : ∃ d, ds = [d] ∧ RD K μ H x d := by
  cases h with
  | cons h1 h2 => cases h2; exact ⟨_, rfl, h1⟩
theorem opD_some {T : Tab} {o : Op} {ds : List D} {S : Sto} {Q : PQ} (h : opD T o ds S Q) : ∃ d S', opF T o ds S = some (d, S') ∧ Q d S' := by
  unfold opD at h
  cases e : opF T o ds S with
  | none => rw [e] at h; exact h.elim
  | some p => rw [e] at h; exact ⟨p.1, p.2, rfl, h⟩
theorem LQ.give {d : D} {S : Sto} {v : V} (h : LQ G.N K μ0 H0 Q d S) (e : Ext μ0 H0 μ H) (R : Rel G.N K μ S H) (r : RD K μ H v d) : Q v H := h μ H v e R r
/-- a new object -/
theorem new_ob {ob : Ob} {o : HO} {p : Addr} (R : Rel G.N K μ S H) (e : Ext μ0 H0 μ H) (hn : H p = none) (n : RO G.N K (muAdd μ S.length p) (upd H p o) p ob) (h : LQ G.N K μ0 H0 Q (.ref S.length) (S ++ [ob])) : Q (.ref p) (upd H p o) :=
  h _ _ _ (e.trans (R.pushExt hn)) (R.push hn n) (.ref muAdd_self)
theorem new_lst {vs : List V} {ds : List D} {p : Addr} (R : Rel G.N K μ S H) (e : Ext μ0 H0 μ H) (hn : H p = none) (r : RDs K μ H vs ds) (h : LQ G.N K μ0 H0 Q (.ref S.length) (S ++ [.lst ds])) : Q (.ref p) (upd H p (.lst vs)) :=
  new_ob (ob := .lst ds) R e hn ⟨vs, upd_same, r.ext (R.pushExt hn)⟩ h
theorem new_tup {vs : List V} {ds : List D} {p : Addr} (R : Rel G.N K μ S H) (e : Ext μ0 H0 μ H) (hn : H p = none) (r : RDs K μ H vs ds) (h : LQ G.N K μ0 H0 Q (.tup ds) S) : Q (.ref p) (upd H p (.tup vs)) :=
  h _ _ _ (e.trans (Ext.upd (.inl hn))) (R.other (R.fresh hn) (.inl hn)) (.tup upd_same (r.ext (Ext.upd (.inl hn))))
theorem Rel.lst {r : Nat} {v : V} {ds : List D} (R : Rel G.N K μ S H) (h : RD K μ H v (.ref r)) (e : S[r]? = some (.lst ds)) : ∃ a vs, v = .ref a ∧ μ r = some a ∧ H a = some (.lst vs) ∧ RDs K μ H vs ds := by
  obtain ⟨a, rfl, h1, vs, h2, h3⟩ := R.ref h e
  exact ⟨a, vs, rfl, h1, h2, h3⟩
/-- a list to be read -/
theorem Rel.seq {v : V} {x : D} {ds : List D} (R : Rel G.N K μ S H) (h : RD K μ H v x) (e : seqD S x = some ds) : ∃ a vs, v = .ref a ∧ SqL K H a vs ∧ RDs K μ H vs ds := by
  cases x with
  | lis es =>
    cases e
    cases h with
    | lis h1 h2 => exact ⟨_, _, rfl, h1.sql, h2⟩
  | ref r =>
    have e : (S[r]?).bind seqOf = some ds := e
    cases q : S[r]? with
    | none => rw [q] at e; cases e
    | some ob =>
      rw [q] at e
      cases ob with
      | lst es =>
        cases e
        obtain ⟨a, vs, rfl, h1, h2, h3⟩ := R.lst h q
        exact ⟨a, vs, rfl, .inl (.inl h2), h3⟩
      | _ => cases e
  | _ => cases e
theorem SqT.ofT {a : Addr} {vs : List V} (h : H a = some (.tup vs)) : SqT K H a vs := .inl (.inl h)

/-! ### arithmetic -/
/-- a clean function of values says what a rule of values asks -/
def VOF (G : Gl) (K : PySem.W.Frag) (f : OpF) (r : List V → Hp → VK → Prop) : Prop :=
  ∀ (μ0 : Mu) (H0 : Hp) (μ : Mu) (S : Sto) (H : Hp) (vs : List V) (ds : List D) (Q : VK) (d : D) (S' : Sto), Ext μ0 H0 μ H → Rel G.N K μ S H → RDs K μ H vs ds → f ds S = some (d, S') → LQ G.N K μ0 H0 Q d S' → r vs H Q
def VOF2 (G : Gl) (K : PySem.W.Frag) (f : OpF) (r : R2) : Prop := VOF G K f fun vs H Q => ∀ x y, vs = [x, y] → r x y H Q
theorem VOF.ok {f : OpF} {r : List V → Hp → VK → Prop} {o : Op} (h : VOF G K f r) (e : opF G.T o = f) : VOk G K o r := fun μ0 H0 μ S H vs ds Q e0 R rd q => by
  obtain ⟨d, S', h1, h2⟩ := opD_some q
  rw [e] at h1
  exact h μ0 H0 μ S H vs ds Q d S' e0 R rd h1 h2
theorem VOF.or {f g : OpF} {r r' : List V → Hp → VK → Prop} (h : VOF G K f r) (h' : VOF G K g r') : VOF G K (orF f g) fun vs H Q => r vs H Q ∨ r' vs H Q := fun μ0 H0 μ S H vs ds Q d S' e0 R rd e q => by
  unfold orF at e
  split at e
  · rename_i z ez; cases e; exact .inl (h μ0 H0 μ S H vs ds Q d S' e0 R rd ez q)
  · exact .inr (h' μ0 H0 μ S H vs ds Q d S' e0 R rd e q)
theorem VOF2.or {f g : OpF} {r r' : R2} (h : VOF2 G K f r) (h' : VOF2 G K g r') : VOF2 G K (orF f g) fun x y H Q => r x y H Q ∨ r' x y H Q := fun μ0 H0 μ S H vs ds Q d S' e0 R rd e q x y hv => by
  unfold orF at e
  split at e
  · rename_i z ez; cases e; exact .inl (h μ0 H0 μ S H vs ds Q d S' e0 R rd ez q x y hv)
  · exact .inr (h' μ0 H0 μ S H vs ds Q d S' e0 R rd e q x y hv)
theorem VOF.imp {f : OpF} {r r' : List V → Hp → VK → Prop} (h : VOF G K f r) (i : ∀ vs H Q, r vs H Q → r' vs H Q) : VOF G K f r' := fun μ0 H0 μ S H vs ds Q d S' e0 R rd e q => i _ _ _ (h μ0 H0 μ S H vs ds Q d S' e0 R rd e q)
/-- two ints -/
theorem int2 {x y : V} {i j : Int} (h1 : RD K μ H x (.int i)) (h2 : RD K μ H y (.int j)) : x = .int i ∧ y = .int j := ⟨h1.int_inv, h2.int_inv⟩
def rAddAll : R2 := fun x y H Q => rI0 (fun i j => .int (i + j)) x y H Q ∨ (∃ i j, x = .str i ∧ y = .str j ∧ i.length + j.length ≤ sizeLine ∧ Q (.str (i ++ j)) H) ∨ rCat x y H Q
theorem op_addAll {X : Cx} : OpR X (binaryOp .Add) rAddAll := op_add.or (op_add_str.or op_cat)
theorem lim_eq : (sizeLine : Nat) = LIM := sizeLine_eq
theorem vk_add : VOk2 G K .add rAddAll := by
  intro μ0 H0 μ S H vs ds Q e R rd h x y hvs
  subst hvs
  obtain ⟨d, d', rfl, h1, h2⟩ := rd.inv2
  obtain ⟨o, S', ho, q⟩ := opD_some h
  replace ho : oAdd [d, d'] S = some (o, S') := ho
  cases d with
  | int i =>
    cases d' with
    | int j => cases ho; exact .inl ⟨i, j, h1.int_inv, h2.int_inv, q.give e R (.int _)⟩
    | _ => cases ho
  | str a =>
    cases d' with
    | str b =>
      simp only [oAdd] at ho
      split at ho
      · rename_i hl
        cases ho
        refine .inr (.inl ⟨SX.S a, SX.S b, h1.str_inv, h2.str_inv, ?_, ?_⟩)
        · rw [S_len, S_len, lim_eq]; exact hl
        · rw [S_cat]; exact q.give e R (RD.str' (h1.cok.append h2.cok))
      · cases ho
    | _ => cases ho
  | ref r =>
    cases d' with
    | ref t =>
      simp only [oAdd] at ho
      split at ho
      · rename_i a b ea eb
        split at ho
        · rename_i hl
          cases ho
          obtain ⟨p, xs, rfl, g1, g2, g3⟩ := R.lst h1 ea
          obtain ⟨p', ys, rfl, g1', g2', g3'⟩ := R.lst h2 eb
          refine .inr (.inr ⟨p, p', xs, ys, rfl, rfl, g2, g2', ?_, fun n hn => new_lst R e hn (g3.append g3') q⟩)
          rw [g3.length, g3'.length, lim_eq]; exact hl
        · cases ho
      · cases ho
    | _ => cases ho
  | _ => cases ho

/-- an operator on two ints -/
theorem vk_int2 {o : Op} {f : OpF} {Cd : Int → Int → Prop} {g : Int → Int → D} {gv : Int → Int → V} (hf : opF G.T o = f) (hs : ∀ d d' S r, f [d, d'] S = some r → ∃ i j, d = .int i ∧ d' = .int j ∧ Cd i j ∧ r = (g i j, S))
    (hg : ∀ μ H i j, RD K μ H (gv i j) (g i j)) : VOk2 G K o (rI Cd gv) := by
  intro μ0 H0 μ S H vs ds Q e R rd h x y hvs
  subst hvs
  obtain ⟨d, d', rfl, h1, h2⟩ := rd.inv2
  obtain ⟨z, S', ho, q⟩ := opD_some h
  rw [hf] at ho
  obtain ⟨i, j, rfl, rfl, c, e2⟩ := hs _ _ _ _ ho
  cases e2
  exact ⟨i, j, h1.int_inv, h2.int_inv, c, q.give e R (hg _ _ i j)⟩
theorem vk_int20 {o : Op} {f : OpF} {g : Int → Int → D} {gv : Int → Int → V} (hf : opF G.T o = f) (hs : ∀ d d' S r, f [d, d'] S = some r → ∃ i j, d = .int i ∧ d' = .int j ∧ r = (g i j, S))
    (hg : ∀ μ H i j, RD K μ H (gv i j) (g i j)) : VOk2 G K o (rI0 gv) := by
  intro μ0 H0 μ S H vs ds Q e R rd h x y hvs
  subst hvs
  obtain ⟨d, d', rfl, h1, h2⟩ := rd.inv2
  obtain ⟨z, S', ho, q⟩ := opD_some h
  rw [hf] at ho
  obtain ⟨i, j, rfl, rfl, e2⟩ := hs _ _ _ _ ho
  cases e2
  exact ⟨i, j, h1.int_inv, h2.int_inv, q.give e R (hg _ _ i j)⟩
theorem vk_sub : VOk2 G K .sub (rI0 fun i j => .int (i - j)) := vk_int20 (f := oSub) (g := fun i j => .int (i - j)) rfl (fun d d' S r h => by
  cases d <;> cases d' <;> first | (cases h; exact ⟨_, _, rfl, rfl, rfl⟩) | cases h) fun _ _ _ _ => .int _
theorem vk_fdiv : VOk2 G K .fdiv (rI CDiv fun i j => .int (i / j)) := vk_int2 (f := oDiv) (g := fun i j => .int (i / j)) rfl (fun d d' S r h => by
  cases d <;> cases d' <;> first | (simp only [oDiv] at h; split at h <;> first | (rename_i c; cases h; exact ⟨_, _, rfl, rfl, c, rfl⟩) | cases h) | cases h) fun _ _ _ _ => .int _
theorem vk_mod : VOk2 G K .mod (rI (fun _ j => 0 < j) fun i j => .int (i % j)) := vk_int2 (f := oMod) (g := fun i j => .int (i % j)) rfl (fun d d' S r h => by
  cases d <;> cases d' <;> first | (simp only [oMod] at h; split at h <;> first | (rename_i c; cases h; exact ⟨_, _, rfl, rfl, c, rfl⟩) | cases h) | cases h) fun _ _ _ _ => .int _
theorem vk_pow : VOk2 G K .pow (rI CPow fun i j => .int (i ^ j.toNat)) := vk_int2 (f := oPow) (g := fun i j => .int (i ^ j.toNat)) rfl (fun d d' S r h => by
  cases d <;> cases d' <;> first | (simp only [oPow] at h; split at h <;> first | (rename_i c; cases h; exact ⟨_, _, rfl, rfl, c, rfl⟩) | cases h) | cases h) fun _ _ _ _ => .int _
theorem cmp_inv {p : Int → Int → Bool} : ∀ d d' S r, oCmp p [d, d'] S = some r → ∃ i j, d = .int i ∧ d' = .int j ∧ r = (.bl (p i j), S) := fun d d' S r h => by
  cases d <;> cases d' <;> first | (cases h; exact ⟨_, _, rfl, rfl, rfl⟩) | cases h
theorem vf_ltI : VOF2 G K (oCmp fun i j => decide (i < j)) (rI0 fun i j => .bl (decide (i < j))) := fun μ0 H0 μ S H vs ds Q d S' e0 R rd e q x y hv => by
  subst hv
  obtain ⟨a, b, rfl, h1, h2⟩ := rd.inv2
  obtain ⟨i, j, rfl, rfl, ee⟩ := cmp_inv _ _ _ _ e
  cases ee
  exact ⟨i, j, h1.int_inv, h2.int_inv, q.give e0 R (.bl _)⟩
theorem vk_le : VOk2 G K .le (rI0 fun i j => .bl (decide (i ≤ j))) := vk_int20 (f := oCmp fun i j => decide (i ≤ j)) (g := fun i j => .bl (decide (i ≤ j))) rfl cmp_inv fun _ _ _ _ => .bl _
theorem vk_gt : VOk2 G K .gt (rI0 fun i j => .bl (decide (j < i))) := vk_int20 (f := oCmp fun i j => decide (j < i)) (g := fun i j => .bl (decide (j < i))) rfl cmp_inv fun _ _ _ _ => .bl _
theorem vk_ge : VOk2 G K .ge (rI0 fun i j => .bl (decide (j ≤ i))) := vk_int20 (f := oCmp fun i j => decide (j ≤ i)) (g := fun i j => .bl (decide (j ≤ i))) rfl cmp_inv fun _ _ _ _ => .bl _
theorem vk_neg : VOk1 G K .neg (rU fun i => .int (-i)) := by
  intro μ0 H0 μ S H vs ds Q e R rd h x hvs
  subst hvs
  obtain ⟨d, rfl, h1⟩ := rd.inv1
  obtain ⟨z, S', ho, q⟩ := opD_some h
  replace ho : oNeg [d] S = some (z, S') := ho
  cases d with
  | int i => cases ho; exact ⟨i, h1.int_inv, q.give e R (.int _)⟩
  | _ => cases ho
/-- i * j, text * int -/
def rMulS : R2 := fun x y H Q => ∃ a k, x = .str a ∧ y = .int k ∧ k.natAbs < 2 ^ 62 ∧ a.length * k.toNat ≤ sizeLine ∧ Q (.str (SX.S (List.replicate k.toNat a.cps.toList).flatten)) H
theorem cmul_of {i j : Int} (h : i.natAbs < 2 ^ 64 ∨ j.natAbs < 2 ^ 64) : CMul i j := by
  rcases h with h | h
  · exact .inl ⟨by omega, by omega⟩
  · exact .inr ⟨by omega, by omega⟩
def rMulAll : R2 := fun x y H Q => rI CMul (fun i j => .int (i * j)) x y H Q ∨ rMulS x y H Q
theorem vk_mul : VOk2 G K .mul rMulAll := by
  intro μ0 H0 μ S H vs ds Q e R rd h x y hvs
  subst hvs
  obtain ⟨d, d', rfl, h1, h2⟩ := rd.inv2
  obtain ⟨o, S', ho, q⟩ := opD_some h
  replace ho : oMul [d, d'] S = some (o, S') := ho
  cases d with
  | int i =>
    cases d' with
    | int j =>
      simp only [oMul] at ho
      split at ho
      · rename_i c; cases ho; exact .inl ⟨i, j, h1.int_inv, h2.int_inv, cmul_of c, q.give e R (.int _)⟩
      · cases ho
    | _ => cases ho
  | str a =>
    cases d' with
    | int k =>
      simp only [oMul] at ho
      split at ho
      · rename_i c; cases ho
        refine .inr ⟨SX.S a, k, h1.str_inv, h2.int_inv, c.1, ?_, ?_⟩
        · rw [S_len, lim_eq]; exact c.2
        · exact q.give e R (RD.str' (h1.cok.sub fun c hc => by
            obtain ⟨l, hl, hcl⟩ := List.mem_flatten.mp hc
            rw [List.eq_of_mem_replicate hl] at hcl; exact hcl))
      · cases ho
    | _ => cases ho
  | _ => cases ho

/-! ### is None -/
/-- one place: x is None -/
theorem isN_ok {x : V} {d : D} (h : RD K μ H x d) : decide (x = .non) = decide (d = .non) := by
  have := h.not_non
  simp [this]
end
end Mp
namespace Mp
open PySem L2

/-! ### == and in, of data -/
theorem mapM_cons {α β : Type} {f : α → Option β} {a : α} {l : List α} {r : List β} (h : (a :: l).mapM f = some r) : ∃ b bs, f a = some b ∧ l.mapM f = some bs ∧ r = b :: bs := by
  rw [List.mapM_cons] at h
  cases e : f a with
  | none => rw [e] at h; cases h
  | some b =>
    rw [e] at h
    cases e2 : l.mapM f with
    | none => rw [e2] at h; cases h
    | some bs => rw [e2] at h; cases h; exact ⟨b, bs, rfl, rfl, rfl⟩
theorem mapM_nil {α β : Type} {f : α → Option β} {r : List β} (h : ([] : List α).mapM f = some r) : r = [] := by cases h; rfl
theorem strOk_of {s : List Nat} (h : Cok s) : PySem.PyData.strOk ⟨s.toArray⟩ = true := by
  unfold PySem.PyData.strOk
  rw [← Array.all_toList, List.all_eq_true]
  intro c hc
  exact decide_eq_true (h c (by simpa using hc))
section
variable {G : Gl} {K : PySem.W.Frag} {μ μ0 : Mu} {S : Sto} {H H0 : Hp} {Q : VK}
theorem pds_ok {n : Nat} (R : Rel G.N K μ S H) (ih : ∀ d v p, RD K μ H v d → pd S n d = some p → Dp K H v p ∧ p.canLay0 = true ∧ p.depth ≤ n) :
    ∀ (ds : List D) (vs : List V) (ps : List PyData), RDs K μ H vs ds → ds.mapM (pd S n) = some ps → DpAll K H vs ps ∧ PyData.canLayAll0 ps = true ∧ PyData.depthAll ps ≤ n
  | [], vs, ps, h, e => by
    cases h
    rw [mapM_nil e]
    exact ⟨.nil, rfl, Nat.zero_le _⟩
  | d :: ds, vs, ps, h, e => by
    cases h with
    | cons h1 h2 =>
      obtain ⟨p, qs, e1, e2, rfl⟩ := mapM_cons e
      obtain ⟨a1, a2, a3⟩ := ih d _ p h1 e1
      obtain ⟨b1, b2, b3⟩ := pds_ok R ih ds _ qs h2 e2
      refine ⟨.cons a1 b1, ?_, ?_⟩
      · rw [PyData.canLayAll0, a2, b2]; rfl
      · rw [PyData.depthAll]; exact Nat.max_le.mpr ⟨a3, b3⟩
theorem pd_ok (R : Rel G.N K μ S H) : ∀ (n : Nat) (d : D) (v : V) (p : PyData), RD K μ H v d → pd S n d = some p → Dp K H v p ∧ p.canLay0 = true ∧ p.depth ≤ n
  | 0, d, v, p, h, e => by rw [pd] at e; cases e
  | n + 1, d, v, p, h, e => by
    cases d with
    | non => rw [pd] at e; cases e; cases h; exact ⟨.non, rfl, Nat.zero_le _⟩
    | bl b => rw [pd] at e; cases e; cases h; exact ⟨.bl _, rfl, Nat.zero_le _⟩
    | int i => rw [pd] at e; cases e; cases h; exact ⟨.int _, rfl, Nat.zero_le _⟩
    | str s => rw [pd] at e; cases e; cases h with | str hk => exact ⟨.str _, strOk_of hk, Nat.zero_le _⟩
    | tup ds =>
      rw [pd] at e
      obtain ⟨ps, e1, rfl⟩ := Option.map_eq_some_iff.mp e
      cases h with
      | tup h1 h2 =>
        obtain ⟨b1, b2, b3⟩ := pds_ok R (pd_ok R n) ds _ ps h2 e1
        exact ⟨.tup (.inl (.inl h1)) b1, b2, Nat.succ_le_succ b3⟩
    | lis ds =>
      rw [pd] at e
      obtain ⟨ps, e1, rfl⟩ := Option.map_eq_some_iff.mp e
      cases h with
      | lis h1 h2 =>
        obtain ⟨b1, b2, b3⟩ := pds_ok R (pd_ok R n) ds _ ps h2 e1
        exact ⟨.lst h1.sql b1, b2, Nat.succ_le_succ b3⟩
    | ref r =>
      rw [pd] at e
      obtain ⟨ps, e1, rfl⟩ := Option.map_eq_some_iff.mp e
      obtain ⟨ds, e2, e3⟩ := Option.bind_eq_some_iff.mp e1
      obtain ⟨a, vs, rfl, g1, g2⟩ := R.seq (x := .ref r) h e2
      obtain ⟨b1, b2, b3⟩ := pds_ok R (pd_ok R n) ds _ ps g2 e3
      exact ⟨.lst g1 b1, b2, Nat.succ_le_succ b3⟩
theorem shaped_of {p : PyData} (h : p.canLay0 = true) (k : p.depth ≤ 64) : SeqAt.shaped p = true := by
  unfold SeqAt.shaped
  rw [h, decide_eq_true k]; rfl
/-- two empty dicts -/
def rEqE (b : Bool) : R2 := fun x y H Q => ∃ p q kx ky, x = .ref p ∧ y = .ref q ∧ H p = some kx ∧ H q = some ky ∧ (kx = .dT [] ∨ kx = .dK []) ∧ (ky = .dT [] ∨ ky = .dK []) ∧ Q (.bl b) H
theorem emp_of {ob : Ob} {a : Addr} {t : Bool} (h : RO G.N K μ H a (.dic t false [])) : ∃ kx, H a = some kx ∧ (kx = .dT [] ∨ kx = .dK []) := by
  cases t with
  | false => obtain ⟨kv, h1, h2⟩ := h; cases h2; exact ⟨_, h1, .inr rfl⟩
  | true => obtain ⟨kv, h1, h2⟩ := h; cases h2; exact ⟨_, h1, .inl rfl⟩
theorem eqD_ok (R : Rel G.N K μ S H) {x y : V} {d d' : D} {k : Bool} (h1 : RD K μ H x d) (h2 : RD K μ H y d') (e : eqD S d d' = some k) :
    (∃ p q, Dp K H x p ∧ Dp K H y q ∧ SeqAt.shaped p = true ∧ SeqAt.shaped q = true ∧ k = PyData.eqv p q) ∨
    (k = true ∧ ∃ p q kx ky, x = .ref p ∧ y = .ref q ∧ H p = some kx ∧ H q = some ky ∧ (kx = .dT [] ∨ kx = .dK []) ∧ (ky = .dT [] ∨ ky = .dK [])) := by
  unfold eqD at e
  split at e
  · rename_i p q e1 e2
    cases e
    obtain ⟨a1, a2, a3⟩ := pd_ok R _ _ _ _ h1 e1
    obtain ⟨b1, b2, b3⟩ := pd_ok R _ _ _ _ h2 e2
    exact .inl ⟨p, q, a1, b1, shaped_of a2 (by omega), shaped_of b2 (by omega), rfl⟩
  · split at e
    · rename_i r q
      split at e
      · rename_i t l t' l' e1 e2
        split at e
        · rename_i hl
          cases e
          obtain ⟨a, rfl, g1, g2⟩ := R.ref h1 e1
          obtain ⟨a', rfl, g1', g2'⟩ := R.ref h2 e2
          cases hl.1; cases hl.2
          obtain ⟨kx, i1, i2⟩ := emp_of (ob := .lst []) g2
          obtain ⟨ky, j1, j2⟩ := emp_of (ob := .lst []) g2'
          exact .inr ⟨rfl, a, a', kx, ky, rfl, rfl, i1, j1, i2, j2⟩
        · cases e
      · cases e
    · cases e
theorem vk_eq : VOk2 G K .eq (fun x y H Q => rEqD K x y H Q ∨ rEqE true x y H Q) := by
  intro μ0 H0 μ S H vs ds Q e R rd h x y hvs
  subst hvs
  obtain ⟨d, d', rfl, h1, h2⟩ := rd.inv2
  obtain ⟨o, S', ho, q⟩ := opD_some h
  replace ho : oEq [d, d'] S = some (o, S') := ho
  obtain ⟨k, hk, e2⟩ := Option.map_eq_some_iff.mp ho
  cases e2
  have g := q.give e R (.bl k)
  rcases eqD_ok R h1 h2 hk with ⟨p, t, a1, a2, a3, a4, rfl⟩ | ⟨rfl, p, t, kx, ky, a1, a2, a3, a4, a5, a6⟩
  · exact .inl ⟨p, t, a1, a2, a3, a4, g⟩
  · exact .inr ⟨p, t, kx, ky, a1, a2, a3, a4, a5, a6, g⟩
theorem vk_ne : VOk2 G K .ne (fun x y H Q => rNeD K x y H Q ∨ rEqE false x y H Q) := by
  intro μ0 H0 μ S H vs ds Q e R rd h x y hvs
  subst hvs
  obtain ⟨d, d', rfl, h1, h2⟩ := rd.inv2
  obtain ⟨o, S', ho, q⟩ := opD_some h
  replace ho : oNe [d, d'] S = some (o, S') := ho
  obtain ⟨k, hk, e2⟩ := Option.map_eq_some_iff.mp ho
  cases e2
  have g := q.give e R (.bl (!k))
  rcases eqD_ok R h1 h2 hk with ⟨p, t, a1, a2, a3, a4, rfl⟩ | ⟨rfl, p, t, kx, ky, a1, a2, a3, a4, a5, a6⟩
  · exact .inl ⟨p, t, a1, a2, a3, a4, g⟩
  · exact .inr ⟨p, t, kx, ky, a1, a2, a3, a4, a5, a6, g⟩
/-! ### in -/
def rInS (neg : Bool) : R2 := fun x y H Q => ∃ (c : Nat) (z : Str), x = .str ⟨#[c]⟩ ∧ y = .str z ∧ Q (.bl (if neg then !decide (c ∈ z.cps.toList) else decide (c ∈ z.cps.toList))) H
theorem vf_inS (neg : Bool) : VOF2 G K (oInStr neg) (rInS neg) := fun μ0 H0 μ S H vs ds Q d S' e R rd h q x y hv => by
  subst hv
  obtain ⟨a, b, rfl, h1, h2⟩ := rd.inv2
  unfold oInStr at h
  split at h
  · rename_i S2 c s e1
    cases h
    cases e1
    exact ⟨c, ⟨s.toArray⟩, h1.str_inv, h2.str_inv, q.give e R (.bl _)⟩
  · cases h
theorem inD_ok (R : Rel G.N K μ S H) {x y : V} {d z : D} {ds : List D} {k : Bool} (h1 : RD K μ H x d) (h2 : RD K μ H y z) (e : seqD S z = some ds) (e2 : inD S d ds = some k) :
    ∃ p ps, Dp K H x p ∧ Dp K H y (.list ps) ∧ SeqAt.shaped p = true ∧ SeqAt.shaped (.list ps) = true ∧ k = ps.any fun z => PyData.eqv z p := by
  unfold inD at e2
  split at e2
  · rename_i p qs e3 e4
    cases e2
    obtain ⟨a1, a2, a3⟩ := pd_ok R _ _ _ _ h1 e3
    obtain ⟨a, vs, rfl, g1, g2⟩ := R.seq h2 e
    obtain ⟨b1, b2, b3⟩ := pds_ok R (pd_ok R 12) ds _ qs g2 e4
    refine ⟨p, qs, a1, .lst g1 b1, shaped_of a2 (by omega), shaped_of b2 ?_, rfl⟩
    rw [PyData.depth]; omega
  · cases e2
def rInQ (K : PySem.W.Frag) (neg : Bool) : R2 := if neg then rNotInD K else rInD K
theorem vf_inQ (neg : Bool) : VOF2 G K (oInSeq neg) (rInQ K neg) := fun μ0 H0 μ S H vs ds Q d S' e R rd h q x y hv => by
  subst hv
  obtain ⟨a, b, rfl, h1, h2⟩ := rd.inv2
  unfold oInSeq at h
  simp only at h
  split at h
  · rename_i es hs
    obtain ⟨k, hk, e2⟩ := Option.map_eq_some_iff.mp h
    cases e2
    obtain ⟨p, ps, c1, c2, c3, c4, rfl⟩ := inD_ok R h1 h2 hs hk
    have g := q.give e R (.bl _)
    cases neg
    · exact ⟨p, ps, c1, c2, c3, c4, g⟩
    · exact ⟨p, ps, c1, c2, c3, c4, g⟩
  · cases h

/-! ### keys of dicts -/
theorem key1_kV {v : V} {d : D} {k : L2.Key} (h : RD K μ H v d) (e : key1 d = some k) : v = kV k := by
  cases d with
  | int i => cases e; exact h.int_inv
  | str s => cases e; exact h.str_inv
  | _ => cases e
theorem keyT_kV {ks : List L2.Key} : ∀ {ds : List D} {vs : List V} {ks : List L2.Key}, RDs K μ H vs ds → ds.mapM key1 = some ks → vs = ks.map kV
  | [], vs, ks, h, e => by cases h; rw [mapM_nil e]; rfl
  | d :: ds, vs, ks, h, e => by
    cases h with
    | cons h1 h2 =>
      obtain ⟨k, ks', e1, e2, rfl⟩ := mapM_cons e
      rw [key1_kV h1 e1, keyT_kV (ks := []) h2 e2]; rfl
theorem key_at {v : V} {d : D} {ks : List L2.Key} (h : RD K μ H v d) (e : keyT d = some ks) : ∃ b, v = .ref b ∧ H b = some (.tup (ks.map kV)) := by
  cases d with
  | tup ds =>
    obtain ⟨a, vs, rfl, h1, h2⟩ := h.tup_inv
    rw [keyT_kV (ks := []) h2 e] at h1
    exact ⟨a, rfl, h1⟩
  | _ => cases e
theorem key1_inj {a b : D} {k : L2.Key} (h : key1 a = some k) (h' : key1 b = some k) : a = b := by
  cases a with
  | int i =>
    cases h
    cases b with
    | int j => cases h'; rfl
    | str s => cases h'
    | _ => cases h'
  | str s =>
    cases h
    cases b with
    | int j => cases h'
    | str t =>
      have e : (Sum.inr (⟨t.toArray⟩ : Str) : L2.Key) = Sum.inr ⟨s.toArray⟩ := Option.some.inj h'
      have e2 : (⟨t.toArray⟩ : Str) = ⟨s.toArray⟩ := Sum.inr.inj e
      have e3 : t.toArray = s.toArray := congrArg Str.cps e2
      have e4 : t = s := by simpa using congrArg Array.toList e3
      rw [e4]
    | _ => cases h'
  | _ => cases h
theorem keys1_inj : ∀ {a b : List D} {ks : List L2.Key}, a.mapM key1 = some ks → b.mapM key1 = some ks → a = b
  | [], b, ks, h, h' => by
    rw [mapM_nil h] at h'
    cases b with
    | nil => rfl
    | cons x b => obtain ⟨_, _, _, _, z⟩ := mapM_cons h'; cases z
  | x :: a, b, ks, h, h' => by
    obtain ⟨k, ks', e1, e2, rfl⟩ := mapM_cons h
    cases b with
    | nil => cases mapM_nil h'
    | cons y b =>
      obtain ⟨k2, ks2, e3, e4, z⟩ := mapM_cons h'
      cases z
      rw [key1_inj e1 e3, keys1_inj e2 e4]
theorem keyT_inj {a b : D} {k : List L2.Key} (h : keyT a = some k) (h' : keyT b = some k) : a = b := by
  cases a with
  | tup a =>
    cases b with
    | tup b => exact congrArg D.tup (keys1_inj h h')
    | _ => cases h'
  | _ => cases h
theorem look_cons {d e k : D} {kvs : List (D × D)} : look ((d, e) :: kvs) k = if d = k then some e else look kvs k := by
  unfold look
  rw [List.find?_cons]
  by_cases h : d = k
  · simp [h]
  · simp [h]
theorem valV_cons {κ : Type} [DecidableEq κ] {k k' : κ} {v : V} {kvs : List (κ × V)} : valV ((k, v) :: kvs) k' = if k = k' then some v else valV kvs k' := by
  unfold valV
  rw [List.find?_cons]
  by_cases h : k = k'
  · simp [h]
  · simp [h]
def OptR (K : PySem.W.Frag) (μ : Mu) (H : Hp) : Option V → Option D → Prop
  | some v, some d => RD K μ H v d
  | none, none => True
  | _, _ => False
theorem OptR.some_of {o : Option V} {d : D} (h : OptR K μ H o (some d)) : ∃ v, o = some v ∧ RD K μ H v d := by
  cases o with
  | some v => exact ⟨v, rfl, h⟩
  | none => exact h.elim
theorem OptR.isSome {o : Option V} {d : Option D} (h : OptR K μ H o d) : o.isSome = d.isSome := by
  cases o <;> cases d <;> first | rfl | exact h.elim
theorem OptR.getD {o : Option V} {d : Option D} {v : V} {x : D} (h : OptR K μ H o d) (r : RD K μ H v x) : RD K μ H (o.getD v) (d.getD x) := by
  cases o <;> cases d <;> first | exact r | exact h | exact h.elim
theorem RKT.look {kv : List (List L2.Key × V)} {kvs : List (D × D)} (h : RKT K μ H kv kvs) {k : D} {ks : List L2.Key} (e : keyT k = some ks) : OptR K μ H (valV kv ks) (look kvs k) := by
  induction h with
  | nil => exact trivial
  | @cons k' v kv ds e' kvs h1 h0 h2 h3 ih =>
    rw [look_cons, valV_cons]
    by_cases hk : (D.tup ds) = k
    · subst hk
      rw [show keyT (.tup ds) = some k' from h1] at e; cases e
      rw [if_pos rfl, if_pos rfl]; exact h2
    · have hn : k' ≠ ks := fun z => hk (keyT_inj (a := .tup ds) h1 (z ▸ e))
      rw [if_neg hk, if_neg hn]; exact ih
theorem RK1.look {kv : List (L2.Key × V)} {kvs : List (D × D)} (h : RK1 K μ H kv kvs) {k : D} {ks : L2.Key} (e : key1 k = some ks) : OptR K μ H (valV kv ks) (look kvs k) := by
  induction h with
  | nil => exact trivial
  | @cons k' v kv d e' kvs h1 h0 h2 h3 ih =>
    rw [look_cons, valV_cons]
    by_cases hk : d = k
    · subst hk
      rw [h1] at e; cases e
      rw [if_pos rfl, if_pos rfl]; exact h2
    · have hn : k' ≠ ks := fun z => hk (key1_inj h1 (z ▸ e))
      rw [if_neg hk, if_neg hn]; exact ih
theorem RKT.length {kv : List (List L2.Key × V)} {kvs : List (D × D)} (h : RKT K μ H kv kvs) : kv.length = kvs.length := by
  induction h with
  | nil => rfl
  | cons _ _ _ _ ih => simp [ih]
theorem RK1.length {kv : List (L2.Key × V)} {kvs : List (D × D)} (h : RK1 K μ H kv kvs) : kv.length = kvs.length := by
  induction h with
  | nil => rfl
  | cons _ _ _ _ ih => simp [ih]
/-- what the dict at r holds at a key -/
theorem dget_ok (R : Rel G.N K μ S H) {x y : V} {r : Nat} {k : D} {t lk : Bool} {kvs : List (D × D)} (h1 : RD K μ H x (.ref r)) (h2 : RD K μ H y k) (e : S[r]? = some (.dic t lk kvs)) (hk : keyOk t k = true) :
    ∃ a o, x = .ref a ∧ DGet H a y o ∧ OptR K μ H o (look kvs k) ∧ IsD H a := by
  obtain ⟨a, rfl, g1, g2⟩ := R.ref h1 e
  cases t with
  | false =>
    obtain ⟨kk, hkk⟩ := Option.isSome_iff_exists.mp (show (key1 k).isSome = true from hk)
    cases lk with
    | false =>
      obtain ⟨kv, i1, i2⟩ := g2
      exact ⟨a, _, rfl, .inl ⟨kv, kk, .inl i1, key1_kV h2 hkk, rfl⟩, i2.look hkk, .inl ⟨kv, .inl i1⟩⟩
    | true =>
      obtain ⟨o, kv, i1, i2⟩ := g2
      exact ⟨a, _, rfl, .inl ⟨kv, kk, .inr ⟨o, i1⟩, key1_kV h2 hkk, rfl⟩, i2.look hkk, .inl ⟨kv, .inr ⟨o, i1⟩⟩⟩
  | true =>
    obtain ⟨kk, hkk⟩ := Option.isSome_iff_exists.mp (show (keyT k).isSome = true from hk)
    obtain ⟨b, rfl, hb⟩ := key_at h2 hkk
    cases lk with
    | false =>
      obtain ⟨kv, i1, i2⟩ := g2
      exact ⟨a, _, rfl, .inr ⟨kv, kk, b, .inl i1, rfl, hb, rfl⟩, i2.look hkk, .inr ⟨kv, .inl i1⟩⟩
    | true =>
      obtain ⟨o, kv, i1, i2⟩ := g2
      exact ⟨a, _, rfl, .inr ⟨kv, kk, b, .inr ⟨o, i1⟩, rfl, hb, rfl⟩, i2.look hkk, .inr ⟨kv, .inr ⟨o, i1⟩⟩⟩
def rInDt (neg : Bool) : R2 := fun y x H Q => ∃ a o, x = .ref a ∧ DGet H a y o ∧ Q (.bl (if neg then !o.isSome else o.isSome)) H
theorem vf_inDt (neg : Bool) : VOF2 G K (oInDic neg) (rInDt neg) := fun μ0 H0 μ S H vs ds Q d S' e R rd h q x y hv => by
  subst hv
  obtain ⟨a, b, rfl, h1, h2⟩ := rd.inv2
  unfold oInDic at h
  split at h
  · rename_i k r S2 e1
    cases e1
    split at h
    · rename_i t lk kvs es
      split at h
      · rename_i hk
        cases h
        obtain ⟨p, o, rfl, g1, g2, _⟩ := dget_ok R h2 h1 es hk
        refine ⟨p, o, rfl, g1, ?_⟩
        rw [g2.isSome]
        exact q.give e R (.bl _)
      · cases h
    · cases h
  · cases h
def rInn (K : PySem.W.Frag) (neg : Bool) : R2 := fun x y H Q => rInS neg x y H Q ∨ rInQ K neg x y H Q ∨ rInDt neg x y H Q
theorem vk_inn : VOk2 G K .inn (rInn K false) := VOF.ok (f := orF (oInStr false) (orF (oInSeq false) (oInDic false))) ((vf_inS false).or ((vf_inQ false).or (vf_inDt false))) rfl
theorem vk_nin : VOk2 G K .nin (rInn K true) := VOF.ok (f := orF (oInStr true) (orF (oInSeq true) (oInDic true))) ((vf_inS true).or ((vf_inQ true).or (vf_inDt true))) rfl
end
end Mp
namespace Mp
open PySem L2

section
variable {G : Gl} {K : PySem.W.Frag} {μ μ0 : Mu} {S : Sto} {H H0 : Hp} {Q : VK}
theorem atI_map {α β : Type} {xs : List α} {i : Int} {c : α} (f : α → β) (h : L2.atI xs i = some c) : L2.atI (xs.map f) i = some (f c) := by
  unfold L2.atI at h ⊢
  rw [List.length_map]
  cases e : ixN xs.length i with
  | none => rw [e] at h; cases h
  | some j => rw [e] at h; simp only [Option.bind_some] at h ⊢; rw [List.getElem?_map, h]; rfl
theorem atI_mem {α : Type} {xs : List α} {i : Int} {c : α} (h : L2.atI xs i = some c) : c ∈ xs := by
  unfold L2.atI at h
  obtain ⟨j, _, e⟩ := Option.bind_eq_some_iff.mp h
  exact List.mem_of_getElem? e
theorem Cok.one {a : List Nat} {c : Nat} (h : Cok a) (k : c ∈ a) : Cok [c] := fun x hx => by
  simp at hx; subst hx; exact h _ k
/-! ### x[i] -/
theorem vf_ix : VOF2 G K oIx (rIx K) := fun μ0 H0 μ S H vs ds Q d S' e R rd h q x y hv => by
  subst hv
  obtain ⟨a, b, rfl, h1, h2⟩ := rd.inv2
  cases b with
  | int i =>
    cases a with
    | str s =>
      simp only [oIx] at h
      split at h
      · rename_i hl
        obtain ⟨c, hc, e2⟩ := Option.map_eq_some_iff.mp h
        cases e2
        refine .inr (.inr ⟨⟨s.toArray⟩, i, c, h1.str_inv, h2.int_inv, ?_, hc, q.give e R (RD.str' (h1.cok.one (atI_mem hc)))⟩)
        rw [SX.S_len, lim_eq]; exact hl
      · cases h
    | tup ds =>
      simp only [oIx] at h
      obtain ⟨c, hc, e2⟩ := Option.map_eq_some_iff.mp h
      cases e2
      obtain ⟨p, vs, rfl, g1, g2⟩ := h1.tup_inv
      obtain ⟨v, i1, i2⟩ := g2.atI hc
      exact .inr (.inl ⟨p, vs, i, v, rfl, h2.int_inv, (Mp.SqT.ofT g1), i1, q.give e R i2⟩)
    | lis ds =>
      simp only [oIx] at h
      split at h
      · rename_i es hs
        obtain ⟨c, hc, e2⟩ := Option.map_eq_some_iff.mp h
        cases e2
        obtain ⟨p, vs, rfl, g1, g2⟩ := R.seq h1 hs
        obtain ⟨v, i1, i2⟩ := g2.atI hc
        exact .inl ⟨p, vs, i, v, rfl, h2.int_inv, g1, i1, q.give e R i2⟩
      · cases h
    | ref r =>
      simp only [oIx] at h
      split at h
      · rename_i es hs
        obtain ⟨c, hc, e2⟩ := Option.map_eq_some_iff.mp h
        cases e2
        obtain ⟨p, vs, rfl, g1, g2⟩ := R.seq h1 hs
        obtain ⟨v, i1, i2⟩ := g2.atI hc
        exact .inl ⟨p, vs, i, v, rfl, h2.int_inv, g1, i1, q.give e R i2⟩
      · cases h
    | _ => cases h
  | _ => cases a <;> cases h
def rDGet : R2 := fun x y H Q => ∃ a v, x = .ref a ∧ DGet H a y (some v) ∧ Q v H
theorem vf_ixD : VOF2 G K oIxD rDGet := fun μ0 H0 μ S H vs ds Q d S' e R rd h q x y hv => by
  subst hv
  obtain ⟨a, b, rfl, h1, h2⟩ := rd.inv2
  unfold oIxD at h
  split at h
  · rename_i S2 r k e1
    cases e1
    split at h
    · rename_i t lk kvs es
      split at h
      · rename_i hk
        obtain ⟨c, hc, e2⟩ := Option.map_eq_some_iff.mp h
        cases e2
        obtain ⟨p, o, rfl, g1, g2, _⟩ := dget_ok R h1 h2 es hk
        rw [hc] at g2
        obtain ⟨v, rfl, g3⟩ := g2.some_of
        exact ⟨p, v, rfl, g1, q.give e R g3⟩
      · cases h
    · cases h
  · cases h
theorem vk_ix : VOk2 G K .ix (fun x y H Q => rIx K x y H Q ∨ rDGet x y H Q) := VOF.ok (f := orF oIx oIxD) (vf_ix.or vf_ixD) rfl

/-! ### slices -/
def rSl (K : PySem.W.Frag) : V → Option Int → Option Int → Hp → VK → Prop := fun x lo hi H Q => rSlS x lo hi H Q ∨ rSlT K x lo hi H Q ∨ rSlL K x lo hi H Q
theorem sl_all {X : Cx} : SlR X (rSl X.K) := sl_str.or (sl_tup.or sl_list)
theorem RDs.cut {vs : List V} {ds : List D} (h : RDs K μ H vs ds) (a b : Nat) : RDs K μ H ((vs.drop a).take b) ((ds.drop a).take b) := (h.drop a).take b
theorem cut_ok {lo hi : Nat → Nat} {l u : Option Int} (hlo : ∀ n, HT.sIx n 0 l = lo n) (hhi : ∀ n, HT.sIx n n u = hi n) {x : V} {d o : D} {S' : Sto} (e : Ext μ0 H0 μ H) (R : Rel G.N K μ S H) (h1 : RD K μ H x d) (h : cutF lo hi d S = some (o, S')) (q : LQ G.N K μ0 H0 Q o S') :
    rSl K x l u H Q := by
  have seq : ∀ es : List D, seqD S d = some es → LQ G.N K μ0 H0 Q (.ref S.length) (S ++ [.lst ((es.drop (lo es.length)).take (hi es.length - lo es.length))]) → rSl K x l u H Q := fun es hs q => by
    obtain ⟨p, vs, rfl, g1, g2⟩ := R.seq h1 hs
    refine .inr (.inr ⟨p, vs, rfl, g1, fun n hn => ?_⟩)
    refine new_lst R e hn ?_ q
    unfold cutV
    rw [hlo, hhi, g2.length]
    exact g2.cut _ _
  cases d with
  | str s =>
    simp only [cutF] at h
    split at h
    · rename_i hl
      cases h
      refine .inl ⟨⟨s.toArray⟩, h1.str_inv, by rw [SX.S_len, lim_eq]; exact hl, ?_⟩
      unfold cutS
      rw [SX.S_len, hlo, hhi]
      exact q.give e R (RD.str' (h1.cok.sub fun c hc => List.mem_of_mem_drop (List.mem_of_mem_take hc)))
    · cases h
  | tup ds =>
    simp only [cutF] at h
    split at h
    · rename_i hl
      cases h
      obtain ⟨p, vs, rfl, g1, g2⟩ := h1.tup_inv
      refine .inr (.inl ⟨p, vs, rfl, (Mp.SqT.ofT g1), ?_, fun n hn => ?_⟩)
      · rw [hlo, hhi, g2.length]
        rintro ⟨z1, z2⟩
        rw [z1, z2] at hl
        simp at hl
      · refine new_tup R e hn ?_ q
        unfold cutV
        rw [hlo, hhi, g2.length]
        exact g2.cut _ _
    · cases h
  | lis ds =>
    simp only [cutF] at h
    split at h
    · rename_i es hs; cases h; exact seq es hs q
    · cases h
  | ref r =>
    simp only [cutF] at h
    split at h
    · rename_i es hs; cases h; exact seq es hs q
    · cases h
  | non => simp [cutF, seqD] at h
  | bl b => simp [cutF, seqD] at h
  | int i => simp [cutF, seqD] at h
theorem sIx_clip {n d : Nat} {i : Int} (h : 0 ≤ i) : HT.sIx n d (some i) = clip i n := by
  show (if i < 0 then (i + (n : Int)).toNat else min i.toNat n) = min i.toNat n
  rw [if_neg (by omega)]

/-! ### displays, calls of built-ins -/
theorem vk_tup : VOk G K .tup (fun vs H Q => vs.length ≤ sizeLine ∧ ∀ p, H p = none → Q (.ref p) (upd H p (.tup vs))) := VOF.ok (f := oTup) (fun μ0 H0 μ S H vs ds Q d S' e R rd h q => by
  unfold oTup at h
  split at h
  · rename_i hl
    cases h
    exact ⟨by rw [rd.length, lim_eq]; exact hl, fun p hn => new_tup R e hn rd q⟩
  · cases h) rfl
theorem vk_lst : VOk G K .lst (fun vs H Q => vs.length ≤ sizeLine ∧ ∀ p, H p = none → Q (.ref p) (upd H p (.lst vs))) := VOF.ok (f := oLst) (fun μ0 H0 μ S H vs ds Q d S' e R rd h q => by
  unfold oLst at h
  split at h
  · rename_i hl
    cases h
    exact ⟨by rw [rd.length, lim_eq]; exact hl, fun p hn => new_lst R e hn rd q⟩
  · cases h) rfl
theorem RDs.none_of {ds : List D} (h : RDs K μ H [] ds) : ds = [] := by cases h; rfl
theorem vk_dnT : VOk G K .dnT (fun vs H Q => vs = [] → ∀ p, H p = none → Q (.ref p) (upd H p (.dT []))) := VOF.ok (f := oNew true) (fun μ0 H0 μ S H vs ds Q d S' e R rd h q hv p hn => by
  subst hv
  cases rd.none_of
  cases h
  exact new_ob (ob := .dic true false []) R e hn ⟨[], upd_same, .nil⟩ q) rfl
/-- len(x) -/
def rLen (K : PySem.W.Frag) : List V → Hp → VK → Prop := fun xs H Q => (∃ x n, xs = [x] ∧ LenV K x H n ∧ Q (.int n) H) ∨ rLenT xs H Q ∨ (∃ a kvs, xs = [V.ref a] ∧ H a = some (.dK kvs) ∧ Q (.int kvs.length) H)
theorem call_lenD' {X : Cx} : CallR X (.builtin "len") (fun xs H Q => ∃ a kvs, xs = [V.ref a] ∧ H a = some (.dK kvs) ∧ Q (.int kvs.length) H) := call_lenD
theorem CallR.or' {X : Cx} {f : Value} {r r' : List V → Hp → VK → Prop} (h : CallR X f r) (h' : CallR X f r') : CallR X f (fun xs H Q => r xs H Q ∨ r' xs H Q) := by
  intro pins s σ H xs us Q I rx q
  rcases q with q | q
  · exact h pins s σ H xs us Q I rx q
  · exact h' pins s σ H xs us Q I rx q
theorem call_lenAll {X : Cx} : CallR X (.builtin "len") (rLen X.K) := CallR.or' call_len (CallR.or' call_len_dT call_lenD')
theorem vf_len : VOF G K oLen (fun xs H Q => ∀ x, xs = [x] → ∃ n, LenV K x H n ∧ Q (.int n) H) := fun μ0 H0 μ S H vs ds Q d S' e R rd h q x hv => by
  subst hv
  obtain ⟨a, rfl, h1⟩ := rd.inv1
  have seq : ∀ es : List D, seqD S a = some es → LQ G.N K μ0 H0 Q (.int es.length) S → ∃ n, LenV K x H n ∧ Q (.int n) H := fun es hs q => by
    obtain ⟨p, vs, rfl, g1, g2⟩ := R.seq h1 hs
    exact ⟨_, .inl ⟨vs, g1, g2.length.symm⟩, q.give e R (.int _)⟩
  cases a with
  | str s =>
    simp only [oLen] at h
    split at h
    · rename_i hl
      cases h
      rw [h1.str_inv]
      exact ⟨s.length, ⟨by rw [SX.S_len, lim_eq]; exact hl, (SX.S_len _).symm⟩, q.give e R (.int _)⟩
    · cases h
  | tup ds =>
    simp only [oLen] at h
    cases h
    obtain ⟨p, vs, rfl, g1, g2⟩ := h1.tup_inv
    exact ⟨_, .inr ⟨vs, (Mp.SqT.ofT g1), g2.length.symm⟩, q.give e R (.int _)⟩
  | lis ds =>
    obtain ⟨es, hs, e2⟩ := Option.map_eq_some_iff.mp (show (seqD S (.lis ds)).map (fun ds => ((.int ds.length : D), S)) = some (d, S') from h)
    cases e2; exact seq es hs q
  | ref r =>
    obtain ⟨es, hs, e2⟩ := Option.map_eq_some_iff.mp (show (seqD S (.ref r)).map (fun ds => ((.int ds.length : D), S)) = some (d, S') from h)
    cases e2; exact seq es hs q
  | non => cases h
  | bl b => cases h
  | int i => cases h
theorem vf_lenD : VOF G K oLenD (fun xs H Q => ∀ x, xs = [x] → ∃ a, x = .ref a ∧ ((∃ kvs, H a = some (.dT kvs) ∧ Q (.int ((kvs.length : Nat) : Int)) H) ∨ (∃ kvs, H a = some (.dK kvs) ∧ Q (.int kvs.length) H))) := fun μ0 H0 μ S H vs ds Q d S' e R rd h q x hv => by
  subst hv
  obtain ⟨a, rfl, h1⟩ := rd.inv1
  unfold oLenD at h
  split at h
  · rename_i S2 r e1
    cases e1
    split at h
    · rename_i t kvs es
      cases h
      obtain ⟨p, rfl, g1, g2⟩ := R.ref h1 es
      cases t with
      | true =>
        obtain ⟨kv, i1, i2⟩ := g2
        refine ⟨p, rfl, .inl ⟨kv, i1, ?_⟩⟩
        rw [i2.length]; exact q.give e R (.int _)
      | false =>
        obtain ⟨kv, i1, i2⟩ := g2
        refine ⟨p, rfl, .inr ⟨kv, i1, ?_⟩⟩
        rw [i2.length]; exact q.give e R (.int _)
    · cases h
  · cases h
theorem one_arg {f : OpF} {r : V → Hp → VK → Prop} (hf : ∀ ds S z, f ds S = some z → ds.length = 1) (h : VOF G K f fun xs H Q => ∀ x, xs = [x] → r x H Q) : VOF G K f fun xs H Q => ∃ x, xs = [x] ∧ r x H Q := fun μ0 H0 μ S H vs ds Q d S' e R rd hh q => by
  have hl := hf _ _ _ hh
  rw [← rd.length] at hl
  cases vs with
  | nil => simp at hl
  | cons x vs =>
    cases vs with
    | nil => exact ⟨x, rfl, h μ0 H0 μ S H _ _ Q d S' e R rd hh q x rfl⟩
    | cons _ _ => simp at hl
theorem vk_len : VOk G K .len (rLen K) := by
  refine VOF.ok (f := orF oLen oLenD) ?_ rfl
  refine VOF.imp (VOF.or (one_arg (fun ds S z h => ?_) vf_len) (one_arg (fun ds S z h => ?_) vf_lenD)) fun vs H Q h => ?_
  · rcases ds with _ | ⟨a, _ | ⟨b, t⟩⟩
    · cases h
    · rfl
    · unfold oLen at h; split at h <;> first | (rename_i z; cases z) | cases h
  · unfold oLenD at h
    split at h
    · rfl
    · cases h
  · rcases h with ⟨x, rfl, n, h1, h2⟩ | ⟨x, rfl, a, rfl, ⟨kvs, h1, h2⟩ | ⟨kvs, h1, h2⟩⟩
    · exact .inl ⟨x, n, rfl, h1, h2⟩
    · exact .inr (.inl ⟨a, kvs, rfl, h1, h2⟩)
    · exact .inr (.inr ⟨a, kvs, rfl, h1, h2⟩)
end
end Mp
namespace Mp
open PySem L2

section
variable {G : Gl} {K : PySem.W.Frag} {μ μ0 : Mu} {S : Sto} {H H0 : Hp} {Q : VK}
/-! ### int, str, list, tuple, min -/
def rInt : List V → Hp → VK → Prop := fun xs H Q => ((∃ i, xs = [.int i] ∧ Q (.int i) H) ∨ ∃ k, xs = [.bl k] ∧ Q (.int (if k then 1 else 0)) H) ∨ ∃ a n, xs = [.str a] ∧ PySem.intText? a = some n ∧ a.length ≤ 640 ∧ Q (.int n) H
theorem call_intAll {X : Cx} : CallR X (.type "int") rInt := CallR.or' call_int1 call_int_str
theorem vk_int : VOk G K .int rInt := VOF.ok (f := orF oInt1 oIntS) (fun μ0 H0 μ S H vs ds Q d S' e R rd h q => by
  unfold orF at h
  split at h
  · rename_i z ez
    cases h
    unfold oInt1 at ez
    split at ez
    · cases ez
      obtain ⟨v, rfl, h1⟩ := rd.one
      exact .inl (.inl ⟨_, by rw [h1.int_inv], q.give e R (.int _)⟩)
    · cases ez
      obtain ⟨v, rfl, h1⟩ := rd.one
      exact .inl (.inr ⟨_, by rw [h1.bl_inv], q.give e R (.int _)⟩)
    · cases ez
  · unfold oIntS at h
    split at h
    · split at h
      · rename_i hl
        obtain ⟨n, hn, e2⟩ := Option.map_eq_some_iff.mp h
        cases e2
        obtain ⟨v, rfl, h1⟩ := rd.one
        exact .inr ⟨_, n, by rw [h1.str_inv], hn, by rw [SX.S_len]; exact hl, q.give e R (.int _)⟩
      · cases h
    · cases h) rfl
theorem numL_ok (n : Nat) : Cok (TL.numL n) := fun c hc => by
  have h := TL.numL_digits n c hc
  omega
def rStr1 : List V → Hp → VK → Prop := fun xs H Q => ∃ i, xs = [.int i] ∧ i.natAbs.log2 < 1920 ∧ Q (.str (toString i)) H
theorem vk_str1 : VOk G K .str1 rStr1 := VOF.ok (f := oStr1) (fun μ0 H0 μ S H vs ds Q d S' e R rd h q => by
  unfold oStr1 at h
  split at h
  · rename_i S2 i
    split at h
    · rename_i hl
      cases h
      obtain ⟨v, rfl, h1⟩ := rd.one
      refine ⟨i, by rw [h1.int_inv], hl.2, ?_⟩
      have e2 : (toString i : String) = toString ((i.toNat : Nat) : Int) := by rw [Int.toNat_of_nonneg hl.1]
      have e3 : Str.ofString (toString i) = SX.S (TL.numL i.toNat) := by rw [e2]; exact SX.num_S _
      show Q (.str (Str.ofString (toString i))) H
      rw [e3]
      exact q.give e R (RD.str' (numL_ok _))
    · cases h
  · cases h) rfl
def rListOf (K : PySem.W.Frag) : List V → Hp → VK → Prop := fun xs H Q => (∃ p ys, xs = [.ref p] ∧ (SqL K H p ys ∨ SqT K H p ys) ∧ ∀ l, H l = none → Q (.ref l) (upd H l (.lst ys))) ∨
  (∃ d kvs, xs = [V.ref d] ∧ Rd H d (.dT kvs) ∧ ∀ p bs, H p = none → IsKeys H kvs bs → Q (.ref p) (upd H p (.lst (bs.map V.ref))))
theorem call_listAll {X : Cx} (hc : X.calm = true) : CallR X (.type "list") (rListOf X.K) := CallR.or' call_list_of (call_list_dT hc)
theorem rds_keys {kv : List (List L2.Key × V)} {kvs : List (D × D)} (h : RKT K μ H kv kvs) : ∀ {bs : List Addr}, IsKeys H kv bs → RDs K μ H (bs.map V.ref) (kvs.map (·.1)) := by
  unfold IsKeys
  induction h with
  | nil => intro bs k; cases k; exact .nil
  | @cons k' v kv ds e kvs h1 h0 h2 h3 ih =>
    intro bs k
    cases k with
    | cons k1 k2 => exact .cons (.tup k1 h0) (ih k2)
theorem vk_listOf : VOk G K .listOf (rListOf K) := VOF.ok (f := orF oListOf oListOfD) (VOF.or (fun μ0 H0 μ S H vs ds Q d S' e R rd h q => by
  have seq : ∀ (a : D) (es : List D), ds = [a] → seqD S a = some es → LQ G.N K μ0 H0 Q (.ref S.length) (S ++ [.lst es]) → ∃ p ys, vs = [.ref p] ∧ (SqL K H p ys ∨ SqT K H p ys) ∧ ∀ l, H l = none → Q (.ref l) (upd H l (.lst ys)) := fun a es ha hs q => by
    subst ha
    obtain ⟨v, rfl, h1⟩ := rd.one
    obtain ⟨p, ws, rfl, g1, g2⟩ := R.seq h1 hs
    exact ⟨p, ws, rfl, .inl g1, fun n hn => new_lst R e hn g2 q⟩
  unfold oListOf at h
  split at h
  · cases h
    obtain ⟨v, rfl, h1⟩ := rd.one
    obtain ⟨p, ws, rfl, g1, g2⟩ := h1.tup_inv
    exact ⟨p, ws, rfl, .inr (Mp.SqT.ofT g1), fun n hn => new_lst R e hn g2 q⟩
  · split at h
    · rename_i es hs; cases h; exact seq _ es rfl hs q
    · cases h
  · cases h) (fun μ0 H0 μ S H vs ds Q d S' e R rd h q => by
  unfold oListOfD at h
  split at h
  · rename_i S2 r
    split at h
    · rename_i kvs es
      cases h
      obtain ⟨v, rfl, h1⟩ := rd.one
      obtain ⟨p, rfl, g1, kv, i1, i2⟩ := R.ref h1 es
      exact ⟨p, kv, rfl, .inl i1, fun n bs hn hk => new_lst R e hn (rds_keys i2 hk) q⟩
    · cases h
  · cases h)) rfl
def rTupOf (K : PySem.W.Frag) : List V → Hp → VK → Prop := fun xs H Q => ∃ p ys, xs = [.ref p] ∧ ((SqL K H p ys ∧ ∀ l, H l = none → Q (.ref l) (upd H l (.tup ys))) ∨ (SqT K H p ys ∧ Q (.ref p) H))
theorem vk_tupOf : VOk G K .tupOf (rTupOf K) := VOF.ok (f := oTupOf) (fun μ0 H0 μ S H vs ds Q d S' e R rd h q => by
  unfold oTupOf at h
  split at h
  · cases h
    obtain ⟨v, rfl, h1⟩ := rd.one
    obtain ⟨p, ws, rfl, g1, g2⟩ := id h1.tup_inv
    exact ⟨p, ws, rfl, .inr ⟨Mp.SqT.ofT g1, q.give e R h1⟩⟩
  · obtain ⟨es, hs, e2⟩ := Option.map_eq_some_iff.mp h
    cases e2
    obtain ⟨v, rfl, h1⟩ := rd.one
    obtain ⟨p, ws, rfl, g1, g2⟩ := R.seq h1 hs
    exact ⟨p, ws, rfl, .inl ⟨g1, fun n hn => new_tup R e hn g2 q⟩⟩
  · cases h) rfl
def rMin2 : List V → Hp → VK → Prop := fun xs H Q => ∃ i j, xs = [.int i, .int j] ∧ Q (.int (if j < i then j else i)) H
theorem vk_min2 : VOk G K .min2 rMin2 := VOF.ok (f := oMin2) (fun μ0 H0 μ S H vs ds Q d S' e R rd h q => by
  unfold oMin2 at h
  split at h
  · cases h
    obtain ⟨v, w, rfl, h1, h2⟩ := rd.two
    exact ⟨_, _, by rw [h1.int_inv, h2.int_inv], q.give e R (.int _)⟩
  · cases h) rfl

/-! ### methods of built-ins -/
/-- the receiver, then the arguments -/
def VOM (G : Gl) (K : PySem.W.Frag) (f : OpF) (r : V → List V → Hp → VK → Prop) : Prop :=
  ∀ (μ0 : Mu) (H0 : Hp) (μ : Mu) (S : Sto) (H : Hp) (x : V) (dx : D) (vs : List V) (ds : List D) (Q : VK) (d : D) (S' : Sto), Ext μ0 H0 μ H → Rel G.N K μ S H → RD K μ H x dx → RDs K μ H vs ds → f (dx :: ds) S = some (d, S') → LQ G.N K μ0 H0 Q d S' → r x vs H Q
/-- what the receiver is, ahead of the arguments -/
def TYM (G : Gl) (K : PySem.W.Frag) (o : Op) (T : String) : Prop := ∀ (μ : Mu) (S : Sto) (H : Hp) (x : V) (d : D), Rel G.N K μ S H → RD K μ H x d → tyOk o S d = true → tyV K T x H
theorem ty_str {o : Op} (h : ∀ S d, tyOk o S d = true → ∃ s, d = .str s) : TYM G K o "str" := fun μ S H x d R r t => by
  obtain ⟨s, rfl⟩ := h S d t
  rw [r.str_inv]; exact rfl
theorem ty_lst {o : Op} (h : ∀ S d, tyOk o S d = true → ∃ r, d = .ref r ∧ (lstAt S r).isSome = true) : TYM G K o "list" := fun μ S H x d R r t => by
  obtain ⟨n, rfl, h2⟩ := h S d t
  obtain ⟨ds, h3⟩ := Option.isSome_iff_exists.mp h2
  obtain ⟨p, vs, rfl, g1, g2⟩ := R.seq (x := .ref n) r h3
  exact .inl ⟨rfl, vs, g1⟩
/-- a list is written anew -/
theorem set_lst {r : Nat} {a : Addr} {vs ws : List V} {es : List D} (R : Rel G.N K μ S H) (e : Ext μ0 H0 μ H) (hm : μ r = some a) (ha : H a = some (.lst vs)) (rd : RDs K μ H ws es) {v : V} {d : D} (hd : ∀ μ' H', Ext μ H μ' H' → RD K μ' H' v d)
    (q : LQ G.N K μ0 H0 Q d (S.set r (.lst es))) : Q v (upd H a (.lst ws)) := by
  have mu : Mut (H a) := by rw [ha]; trivial
  have ex : Ext μ H μ (upd H a (.lst ws)) := Ext.upd (.inr mu)
  exact q _ _ _ (e.trans ex) (R.write (ob := .lst es) hm mu ⟨ws, upd_same, rd.ext ex⟩) (hd _ _ ex)
theorem vm_append : VOM G K oAppend rAppend := fun μ0 H0 μ S H x dx vs ds Q d S' e R rx rd h q => by
  unfold oAppend at h
  split at h
  · rename_i S2 r y ez
    cases ez
    split at h
    · rename_i es hs
      split at h
      · rename_i hl
        cases h
        obtain ⟨v, rfl, h1⟩ := rd.one
        obtain ⟨p, ws, rfl, g0, g1, g2⟩ := R.lst rx hs
        exact ⟨p, ws, v, rfl, rfl, g1, by rw [g2.length, lim_eq]; exact hl, set_lst R e g0 g1 (g2.append (.cons h1 .nil)) (fun _ _ _ => .non) q⟩
      · cases h
    · cases h
  · cases h
theorem vm_clear : VOM G K oClear rClear := fun μ0 H0 μ S H x dx vs ds Q d S' e R rx rd h q => by
  unfold oClear at h
  split at h
  · rename_i S2 r ez
    cases ez
    split at h
    · rename_i es hs
      cases h
      cases rd
      obtain ⟨p, ws, rfl, g0, g1, g2⟩ := R.lst rx hs
      exact ⟨p, ws, rfl, rfl, g1, set_lst R e g0 g1 .nil (fun _ _ _ => .non) q⟩
    · cases h
  · cases h
def rInsert : V → List V → Hp → VK → Prop := fun x vs H Q => ∃ (l : Addr) (xs : List V) (i : Int) (y : V), x = .ref l ∧ vs = [.int i, y] ∧ H l = some (.lst xs) ∧ xs.length < sizeLine ∧ 0 ≤ i ∧ i < 2 ^ 63 ∧
    Q .non (upd H l (.lst (xs.take i.toNat ++ [y] ++ xs.drop i.toNat)))
theorem vm_insert : VOM G K oInsert rInsert := fun μ0 H0 μ S H x dx vs ds Q d S' e R rx rd h q => by
  unfold oInsert at h
  split at h
  · rename_i S2 r i y ez
    cases ez
    split at h
    · rename_i es hs
      split at h
      · rename_i hl
        cases h
        obtain ⟨v, w, rfl, h1, h2⟩ := rd.two
        obtain ⟨p, ws, rfl, g0, g1, g2⟩ := R.lst rx hs
        rw [h1.int_inv]
        refine ⟨p, ws, i, w, rfl, rfl, g1, by rw [g2.length, lim_eq]; exact hl.1, hl.2.1, ?_, ?_⟩
        · have := hl.2.2; have := hl.1; unfold LIM at *; omega
        · refine set_lst R e g0 g1 ?_ (fun _ _ _ => .non) q
          rw [List.append_assoc]
          exact (g2.take _).append (.cons h2 (g2.drop _))
      · cases h
    · cases h
  · cases h
theorem txts_cons {d : D} {ds : List D} {ps : List (List Nat)} (h : txts (d :: ds) = some ps) : ∃ s qs, d = .str s ∧ txts ds = some qs ∧ ps = s :: qs := by
  obtain ⟨b, bs, e1, e2, rfl⟩ := mapM_cons h
  cases d with
  | str s => cases e1; exact ⟨_, bs, rfl, e2, rfl⟩
  | _ => cases e1
theorem txts_ok : ∀ {ds : List D} {vs : List V} {ps : List (List Nat)}, RDs K μ H vs ds → txts ds = some ps → vs = (ps.map SX.S).map V.str ∧ ∀ p ∈ ps, Cok p
  | [], vs, ps, h, e => by
    cases h
    rw [show ps = [] from mapM_nil e]
    exact ⟨rfl, fun _ h => nomatch h⟩
  | d :: ds, vs, ps, h, e => by
    obtain ⟨s, qs, rfl, e2, rfl⟩ := txts_cons e
    cases h with
    | cons h1 h2 =>
      obtain ⟨a, b⟩ := txts_ok h2 e2
      refine ⟨by rw [h1.str_inv, a]; rfl, fun p hp => ?_⟩
      rcases List.mem_cons.mp hp with rfl | hp
      · exact h1.cok
      · exact b p hp
theorem joinL_ok {sep : List Nat} (hs : Cok sep) : ∀ {ps : List (List Nat)}, (∀ p ∈ ps, Cok p) → Cok (TL.joinL sep ps)
  | [], _ => fun c hc => by simp [TL.joinL] at hc
  | [p], h => by rw [TL.joinL]; exact h p (by simp)
  | p :: q :: r, h => by
    rw [TL.joinL]
    exact (h p (by simp)).append (hs.append (joinL_ok hs fun x hx => h x (List.mem_cons_of_mem _ hx)))
def rJoin (K : PySem.W.Frag) : V → List V → Hp → VK → Prop := fun x xs H Q => ∃ a p, ∃ ys : List Str, x = .str a ∧ xs = [.ref p] ∧ (SqL K H p (ys.map V.str) ∨ SqT K H p (ys.map V.str)) ∧
    (ys.map (·.length)).sum + ys.length * a.length ≤ 16777216 ∧ Q (.str (Txt.join a ys)) H
theorem vm_join : VOM G K oJoin (rJoin K) := fun μ0 H0 μ S H x dx vs ds Q d S' e R rx rd h q => by
  have fin : ∀ (sep : List Nat) (es : List D) (p : Addr) (ws : List V), dx = .str sep → vs = [.ref p] → (SqL K H p ws ∨ SqT K H p ws) → RDs K μ H ws es → joinF sep es S = some (d, S') → rJoin K x vs H Q := fun sep es p ws hx hv hs hr hj => by
    subst hx hv
    unfold joinF at hj
    split at hj
    · rename_i ps hp
      split at hj
      · rename_i hl
        cases hj
        obtain ⟨rfl, hc⟩ := txts_ok hr hp
        refine ⟨SX.S sep, p, ps.map SX.S, rx.str_inv, rfl, hs, ?_, ?_⟩
        · rw [SX.lens, List.length_map, SX.S_len]; exact hl
        · rw [SX.join_S]; exact q.give e R (RD.str' (joinL_ok rx.cok hc))
      · cases hj
    · cases hj
  unfold oJoin at h
  split at h
  · rename_i S2 sep es ez
    cases ez
    obtain ⟨v, rfl, h1⟩ := rd.one
    obtain ⟨p, ws, rfl, g1, g2⟩ := h1.tup_inv
    exact fin sep es p ws rfl rfl (.inr (Mp.SqT.ofT g1)) g2 h
  · rename_i S2 sep y hny ez
    cases ez
    split at h
    · rename_i es hs
      obtain ⟨v, rfl, h1⟩ := rd.one
      obtain ⟨p, ws, rfl, g1, g2⟩ := R.seq h1 hs
      exact fin sep es p ws rfl rfl (.inl g1) g2 h
    · cases h
  · cases h
end
end Mp
namespace Mp
open PySem PySem.Spec PyProof.Rows L2

theorem _root_.L2.PE.or {X : Cx} {e : Expr} {t t' : TE} (h : PE X e t) (h' : PE X e t') : PE X e (fun σ H Q => t σ H Q ∨ t' σ H Q) := ⟨fun pins s σ H Q I q => q.elim (h.run pins s σ H Q I) (h'.run pins s σ H Q I)⟩
section
variable {G : Gl} {X : Cx} {C : Calls} {hx : Option Nat}
variable {e a b : Expr} {es : List Expr} {m ma mb : Tm} {ms : Tms} {pos p : Pos} {x : Str}

/-! ### calls of built-ins -/
theorem ce_callB (hC : MonoC C) {id : String} {r : List V → Hp → VK → Prop} {o : Op} (hc : CallR X (.builtin id) r) (hv : VOk G X.K o r) (h : CEs G C hx X (e :: es) ms) (hg : L2.Gl X x) (hm : X.mg x = none) (hb : bootBuiltins x = some (.builtin id))
    (hn : x ≠ "__name__" := by decide) (hdb : (x == ("__debug__" : Str)) = false := by decide)
    (he : starEach (e :: es) X.env = (false, eval e X.env) :: starEach es X.env := by rfl) (hpl : (backTo pos (starEach es X.env)).any (·.1) = false := by rfl) : CE G C hx X (.Call (.Name x p) (e :: es) [] pos) (.op o ms) := fun W tk y => by
  refine (pe_callB hc hg hm hb (h.pa hC tk y) hn hdb he hpl).imp fun σ H Q ⟨μ, S, ρ, wd, q⟩ => ?_
  refine bindA (monoEs hC ms) wd q fun vs H1 μ1 S1 ds e1 w1 r1 q1 => ?_
  exact hv μ H μ1 S1 H1 vs ds Q e1 w1.rel r1 q1
theorem ce_callTy (hC : MonoC C) {T : String} {r : List V → Hp → VK → Prop} {o : Op} (hc : CallR X (.type T) r) (hv : VOk G X.K o r) (h : CEs G C hx X (e :: es) ms) (hg : L2.Gl X x) (hm : X.mg x = none) (hb : bootBuiltins x = some (.type T))
    (hn : x ≠ "__name__" := by decide) (hdb : (x == ("__debug__" : Str)) = false := by decide)
    (he : starEach (e :: es) X.env = (false, eval e X.env) :: starEach es X.env := by rfl) (hpl : (backTo pos (starEach es X.env)).any (·.1) = false := by rfl) : CE G C hx X (.Call (.Name x p) (e :: es) [] pos) (.op o ms) := fun W tk y => by
  refine (pe_callTy hc hg hm hb (h.pa hC tk y) hn hdb he hpl).imp fun σ H Q ⟨μ, S, ρ, wd, q⟩ => ?_
  refine bindA (monoEs hC ms) wd q fun vs H1 μ1 S1 ds e1 w1 r1 q1 => ?_
  exact hv μ H μ1 S1 H1 vs ds Q e1 w1.rel r1 q1

/-! ### methods of built-ins -/
theorem ce_bm (hC : MonoC C) {T id : String} {name : Str} {o : Op} {r : V → List V → Hp → VK → Prop} {apos cpos : Pos} (pa : PlainAttrs T) (slot : Slot T name id) (hty : typeOf (.builtin id) = pure (.type "method_descriptor")) (hm : MtR X id r)
    (vm : VOM G X.K (opF G.T o) r) (ty : TYM G X.K o T) (ho : CE G C hx X a ma) (h : CEs G C hx X (e :: es) ms)
    (hbase : attributeBase a name X.env (eval a X.env) = eval a X.env := by rfl)
    (hfew : ((backTo cpos (starEach (e :: es) X.env)).all (fun x => !x.1) && (backToKw cpos (keywordEach [] X.env)).all (fun x => x.1.isSome)
      && decide ((e :: es).length + ([] : List Keyword).length + (if ([] : List Keyword).isEmpty then 0 else 1) < 30)) = true := by rfl)
    (hline : (apos.endLine == cpos.line) = true := by rfl) (hs : starEach (e :: es) X.env = (false, eval e X.env) :: starEach es X.env := by rfl) (hplain : (backTo cpos (starEach es X.env)).any (·.1) = false := by rfl) :
    CE G C hx X (.Call (.Attribute a name apos) (e :: es) [] cpos) (.bm o ma ms) := fun W tk y => by
  refine (pe_bm pa slot hty hm (ho W tk y) (h.pa hC tk y) hbase hfew hline hs hplain).imp fun σ H Q ⟨μ, S, ρ, wd, q⟩ => ?_
  refine bindW (monoE hC ma) wd q fun v H1 μ1 S1 d e1 w1 r1 q1 => ?_
  refine ⟨ty μ1 S1 H1 v d w1.rel r1 q1.1, ?_⟩
  refine bindA (monoEs hC ms) w1 q1.2 fun vs H2 μ2 S2 ds e2 w2 r2 q2 => ?_
  obtain ⟨z, S3, hz, q3⟩ := opD_some q2
  exact vm μ H μ2 S2 H2 v d vs ds Q z S3 (e1.trans e2) w2.rel (r1.ext e2) r2 hz q3
theorem ce_bm0 (hC : MonoC C) {T id : String} {name : Str} {o : Op} {r : V → List V → Hp → VK → Prop} {apos cpos : Pos} (pa : PlainAttrs T) (slot : Slot T name id) (hty : typeOf (.builtin id) = pure (.type "method_descriptor")) (hm : MtR X id r)
    (vm : VOM G X.K (opF G.T o) r) (ty : TYM G X.K o T) (ho : CE G C hx X a ma) (hbase : attributeBase a name X.env (eval a X.env) = eval a X.env := by rfl) (hline : (apos.endLine == cpos.line) = true := by rfl) :
    CE G C hx X (.Call (.Attribute a name apos) [] [] cpos) (.bm o ma .nil) := fun W tk y => by
  refine (pe_bm0 pa slot hty hm (ho W tk y) hbase hline).imp fun σ H Q ⟨μ, S, ρ, wd, q⟩ => ?_
  refine bindW (monoE hC ma) wd q fun v H1 μ1 S1 d e1 w1 r1 q1 => ?_
  refine ⟨ty μ1 S1 H1 v d w1.rel r1 q1.1, ?_⟩
  obtain ⟨z, S3, hz, q3⟩ := opD_some q1.2
  exact vm μ H μ1 S1 H1 v d [] [] Q z S3 e1 w1.rel r1 .nil hz q3
/-- d.get(k, x) -/
theorem ce_get2 (hC : MonoC C) {e2 : Expr} {m1 m2 : Tm} {apos cpos : Pos} (hu : X.A.units + 65 < cLine) (ho : CE G C hx X a ma) (he : CE G C hx X e m1) (he2 : CE G C hx X e2 m2) (mm : M2 X a "get" apos e e2 cpos) :
    CE G C hx X (.Call (.Attribute a "get" apos) [e, e2] [] cpos) (.bm .get2 ma (.cons m1 (.cons m2 .nil))) := fun W tk y => by
  refine (pe_dget2 (by omega) (ho W tk y) (he W tk y) (he2 W tk y) mm).imp fun σ H Q ⟨μ, S, ρ, wd, q⟩ => ?_
  refine bindW (monoE hC ma) wd q fun v H1 μ1 S1 d e1 w1 r1 q1 => ?_
  obtain ⟨q0, q1⟩ := q1
  have isd : ∃ p, v = .ref p ∧ IsD H1 p := by
    unfold tyOk at q0
    simp only at q0
    split at q0
    · split at q0
      · rename_i r t lk kvs es
        obtain ⟨p, rfl, g1, g2⟩ := w1.rel.ref r1 es
        refine ⟨p, rfl, ?_⟩
        cases t <;> cases lk
        · obtain ⟨kv, i1, _⟩ := g2; exact .inl ⟨kv, .inl i1⟩
        · obtain ⟨o, kv, i1, _⟩ := g2; exact .inl ⟨kv, .inr ⟨o, i1⟩⟩
        · obtain ⟨kv, i1, _⟩ := g2; exact .inr ⟨kv, .inl i1⟩
        · obtain ⟨o, kv, i1, _⟩ := g2; exact .inr ⟨kv, .inr ⟨o, i1⟩⟩
      · cases q0
    · cases q0
  obtain ⟨p, rfl, isd⟩ := isd
  refine ⟨p, rfl, isd, ?_⟩
  refine bindW (monoE hC m1) w1 q1 fun v2 H2 μ2 S2 d2 e2' w2 r2 q2 => ?_
  refine bindW (monoE hC m2) w2 q2 fun v3 H3 μ3 S3 d3 e3 w3 r3 q3 => ?_
  obtain ⟨z, S4, hz, q4⟩ := opD_some q3
  replace hz : oGet2 [d, d2, d3] S3 = some (z, S4) := hz
  unfold oGet2 at hz
  split at hz
  · rename_i r k x ez
    cases ez
    split at hz
    · rename_i t lk kvs es
      split at hz
      · rename_i hk
        cases hz
        obtain ⟨p', o, ep, g1, g2, _⟩ := dget_ok w3.rel ((r1.ext e2').ext e3) (r2.ext e3) es hk
        cases ep
        exact ⟨o, g1, LQ.give q4 ((e1.trans e2').trans e3) w3.rel (g2.getD r3)⟩
      · cases hz
    · cases hz
  · cases hz

/-! ### subscripts, slices, attributes -/
theorem ix_dict (hu : X.A.units + 1 < cLine) : IxR X rDGet := by
  intro value slice pins s σ H x y v u Q I rx ry h hs
  obtain ⟨a, z, rfl, g, q⟩ := h
  obtain rfl : v = Value.ref a := rx
  have hT := dict_typeIs I g
  unfold subscriptTail
  refine wpAny_bind ?_
  rw [getitemInPython_of_ne hT.not_modules]
  refine wpAny_bind (wpAny_specialOf hT PySem.F.slot_dict_getitem.lookup ?_)
  have fin : wpAny (model X.prog X.w) X.A (subscripted slice false (.ref a) u) (fun r s₃ => wpAny (model X.prog X.w) X.A (letTemporaryGo value (.ref a) r >>= fun _ => pure r) (EP X pins σ Q) X.xe s₃) X.xe s := by
    rw [hs]
    exact wpAny_operating (wpAny_mono (d_getItem (A := X.A) (Q := fun r s₃ => EP X pins σ Q r s₃) hu I g ry fun w' s3 I3 rw' => ⟨z, H, I3, rw', q⟩) (fun r s₃ h₃ => wpAny_bind (wpAny_letTemporaryGo (wpAny_pure h₃))) fun _ _ x => x)
  first
    | exact wpAny_pure (wpAny_bind fin)
    | exact wpAny_bind (wpAny_pure (wpAny_bind fin))
    | exact wpAny_bind fin
theorem ce_ix (hC : MonoC C) (hu : X.A.units + 65 < cLine) (ha : CE G C hx X a ma) (hb : CE G C hx X b mb) (hs : PlainIx b) : CE G C hx X (.Subscript a b pos) (.op .ix (.cons ma (.cons mb .nil))) := fun W tk y => by
  refine (pe_ix (ix_seq.or (ix_dict (by omega))) (ha W tk y) (hb W tk y) hs).imp fun σ H Q ⟨μ, S, ρ, wd, q⟩ => ?_
  refine bindW (monoE hC ma) wd q fun v H1 μ1 S1 d e1 w1 r1 q1 => ?_
  refine bindW (monoE hC mb) w1 q1 fun u H2 μ2 S2 d' e2 w2 r2 q2 => ?_
  exact vk_ix μ H μ2 S2 H2 [v, u] [d, d'] Q (e1.trans e2) w2.rel (.cons (r1.ext e2) (.cons r2 .nil)) q2 v u rfl
theorem ce_cutB (hC : MonoC C) {i j : Expr} {mi : Tm} {n : Int} {p2 : Pos} (ha : CE G C hx X a ma) (hi : CE G C hx X i mi) (hj : CE G C hx X j (.cst (.int n))) : CE G C hx X (.Subscript a (.Slice (some i) (some j) none p2) pos) (.op .cutB (.cons ma (.cons mi (.cons (.cst (.int n)) .nil)))) := fun W tk y => by
  refine (pe_slice sl_all (ha W tk y) (po_some (hi W tk y)) (po_some (hj W tk y))).imp fun σ H Q ⟨μ, S, ρ, wd, q⟩ => ?_
  refine bindW (monoE hC ma) wd q fun v H1 μ1 S1 d e1 w1 r1 q1 => ?_
  refine bindW (monoE hC mi) w1 q1 fun u H2 μ2 S2 d2 e2 w2 r2 q2 => ?_
  obtain ⟨z, S3, hz, q3⟩ := opD_some q2
  replace hz : oCutB [d, d2, .int n] S2 = some (z, S3) := hz
  cases d2 with
  | int k =>
    simp only [oCutB] at hz
    split at hz
    · rename_i hk
      refine ⟨k, r2.int_inv, μ2, S2, ρ, w2, ?_⟩
      intro μ3 H3 v3 e3 R3 r3
      exact ⟨n, r3.int_inv, cut_ok (fun m => sIx_clip hk.1) (fun m => sIx_clip hk.2) ((e1.trans e2).trans e3) R3 ((r1.ext e2).ext e3) hz q3⟩
    · cases hz
  | _ => cases hz
theorem ce_cutL (hC : MonoC C) {i : Expr} {mi : Tm} {p2 : Pos} (ha : CE G C hx X a ma) (hi : CE G C hx X i mi) : CE G C hx X (.Subscript a (.Slice (some i) none none p2) pos) (.op .cutL (.cons ma (.cons mi .nil))) := fun W tk y => by
  refine (pe_slice sl_all (ha W tk y) (po_some (hi W tk y)) po_none).imp fun σ H Q ⟨μ, S, ρ, wd, q⟩ => ?_
  refine bindW (monoE hC ma) wd q fun v H1 μ1 S1 d e1 w1 r1 q1 => ?_
  refine bindW (monoE hC mi) w1 q1 fun u H2 μ2 S2 d2 e2 w2 r2 q2 => ?_
  obtain ⟨z, S3, hz, q3⟩ := opD_some q2
  replace hz : oCutL [d, d2] S2 = some (z, S3) := hz
  cases d2 with
  | int k =>
    simp only [oCutL] at hz
    split at hz
    · rename_i hk
      exact ⟨k, r2.int_inv, cut_ok (fun m => sIx_clip hk) (fun m => rfl) (e1.trans e2) w2.rel (r1.ext e2) hz q3⟩
    · cases hz
  | _ => cases hz
theorem ce_cutH (hC : MonoC C) {i : Expr} {mi : Tm} {p2 : Pos} (ha : CE G C hx X a ma) (hi : CE G C hx X i mi) : CE G C hx X (.Subscript a (.Slice none (some i) none p2) pos) (.op .cutH (.cons ma (.cons mi .nil))) := fun W tk y => by
  refine (pe_slice sl_all (ha W tk y) po_none (po_some (hi W tk y))).imp fun σ H Q ⟨μ, S, ρ, wd, q⟩ => ?_
  refine bindW (monoE hC ma) wd q fun v H1 μ1 S1 d e1 w1 r1 q1 => ?_
  refine bindW (monoE hC mi) w1 q1 fun u H2 μ2 S2 d2 e2 w2 r2 q2 => ?_
  obtain ⟨z, S3, hz, q3⟩ := opD_some q2
  replace hz : oCutH [d, d2] S2 = some (z, S3) := hz
  cases d2 with
  | int k =>
    simp only [oCutH] at hz
    split at hz
    · rename_i hk
      exact ⟨k, r2.int_inv, cut_ok (fun m => rfl) (fun m => sIx_clip hk) (e1.trans e2) w2.rel (r1.ext e2) hz q3⟩
    · cases hz
  | _ => cases hz
theorem ce_revL (hC : MonoC C) {k : Nat} {p1 p2 p3 : Pos} (ha : CE G C hx X a ma) : CE G C hx X (.Subscript a (.Slice none none (some (.UnaryOp .USub (.Constant (.int 1) k p1) p2)) p3) pos) (.op .revL (.cons ma .nil)) := fun W tk y => by
  refine (pe_revL (ha W tk y)).imp fun σ H Q ⟨μ, S, ρ, wd, q⟩ => ?_
  refine bindW (monoE hC ma) wd q fun v H1 μ1 S1 d e1 w1 r1 q1 => ?_
  obtain ⟨z, S3, hz, q3⟩ := opD_some q1
  replace hz : oRevL [d] S1 = some (z, S3) := hz
  simp only [oRevL] at hz
  split at hz
  · rename_i es hs
    cases hz
    obtain ⟨p, vs, rfl, g1, g2⟩ := w1.rel.seq r1 hs
    exact ⟨p, vs, rfl, g1, fun n hn => new_lst w1.rel e1 hn g2.reverse q3⟩
  · cases hz
/-- what the text's top says of its own classes -/
def ClsAll (G : Gl) (K : PySem.W.Frag) : Prop := ∀ c C, G.N.kap c = some C → Cls K C
def NoAt (G : Gl) (K : PySem.W.Frag) (f : Nat) : Prop := ∀ c C, G.N.kap c = some C → NoAttr K C (G.N.nm f)
theorem RF.look {nm : Nat → Str} (inj : ∀ f g, nm f = nm g → f = g) {K : PySem.W.Frag} {μ : Mu} {H : Hp} {fv : List (Str × V)} {fs : List (Nat × D)} (h : RF nm K μ H fv fs) (f : Nat) : OptR K μ H (fv.lookup (nm f)) (lookF fs f) := by
  induction h with
  | nil => exact trivial
  | @cons g v fv d fs h1 h2 ih =>
    unfold lookF at ih ⊢
    rw [List.lookup_cons, List.lookup_cons]
    by_cases hg : f = g
    · subst hg; simp [OptR, h1]
    · have n1 : (f == g) = false := by simpa using hg
      have n2 : (nm f == nm g) = false := by
        rw [beq_eq_false_iff_ne]
        exact fun z => hg (inj _ _ z)
      rw [n1, n2]; exact ih
theorem ce_attr (hC : MonoC C) {f : Nat} {name : Str} (hcl : ClsAll G X.K) (hno : NoAt G X.K f) (hnm : G.N.nm f = name) (inj : ∀ f g, G.N.nm f = G.N.nm g → f = g) (ha : CE G C hx X a ma) (hb : attributeBase a name X.env (eval a X.env) = eval a X.env := by rfl) :
    CE G C hx X (.Attribute a name pos) (.op (.attr f) (.cons ma .nil)) := fun W tk y => by
  subst hnm
  refine (pe_fld (ha W tk y) hb).imp fun σ H Q ⟨μ, S, ρ, wd, q⟩ => ?_
  refine bindW (monoE hC ma) wd q fun v H1 μ1 S1 d e1 w1 r1 q1 => ?_
  obtain ⟨z, S3, hz, q3⟩ := opD_some q1
  replace hz : oAttr f [d] S1 = some (z, S3) := hz
  unfold oAttr at hz
  split at hz
  · rename_i S2 r ez
    cases ez
    split at hz
    · rename_i c fs es
      obtain ⟨o, ho, e2⟩ := Option.map_eq_some_iff.mp hz
      cases e2
      obtain ⟨p, rfl, g1, Cc, dx, fv, g2, g3, g4⟩ := w1.rel.ref r1 es
      have g5 := Mp.RF.look inj g4 f
      rw [ho] at g5
      obtain ⟨v, hv, g6⟩ := g5.some_of
      exact ⟨p, Cc, dx, fv, v, rfl, g3, hcl c Cc g2, hno c Cc g2, hv, LQ.give q3 e1 w1.rel g6⟩
    · cases hz
  · cases hz

/-! ### displays -/
theorem ce_tup (hC : MonoC C) {k} (h : CEs G C hx X es ms) : CE G C hx X (.Tuple es k pos) (.op .tup ms) := fun W tk y => by
  refine (pe_tup (h.pa hC tk y)).imp fun σ H Q ⟨μ, S, ρ, wd, q⟩ => ?_
  refine bindA (monoEs hC ms) wd q fun vs H1 μ1 S1 ds e1 w1 r1 q1 => ?_
  exact vk_tup μ H μ1 S1 H1 vs ds Q e1 w1.rel r1 q1
theorem ce_lst (hC : MonoC C) (h : CEs G C hx X es ms) : CE G C hx X (.List es pos) (.op .lst ms) := fun W tk y => by
  refine (pe_lst (h.pa hC tk y)).imp fun σ H Q ⟨μ, S, ρ, wd, q⟩ => ?_
  refine bindA (monoEs hC ms) wd q fun vs H1 μ1 S1 ds e1 w1 r1 q1 => ?_
  exact vk_lst μ H μ1 S1 H1 vs ds Q e1 w1.rel r1 q1
theorem ce_dnT (hC : MonoC C) : CE G C hx X (.Dict [] [] pos) (.op .dnT .nil) := fun W tk y => by
  refine pe_dnewT.imp fun σ H Q ⟨μ, S, ρ, wd, q⟩ => ?_
  exact vk_dnT μ H μ S H [] [] Q (Ext.refl _ _) wd.rel .nil q rfl
theorem ce_isN (hC : MonoC C) {j pos'} (ha : CE G C hx X a ma) : CE G C hx X (.Compare a [.Is] [.Constant .none j pos'] pos) (.op .isN (.cons ma .nil)) := fun W tk y => by
  refine (pe_cmp (pc_isN (ha W tk y))).imp fun σ H Q ⟨μ, S, ρ, wd, q⟩ => ?_
  refine bindW (monoE hC ma) wd q fun v H1 μ1 S1 d e1 w1 r1 q1 => ?_
  obtain ⟨z, S3, hz, q3⟩ := opD_some (show opD G.T .isN [d] S1 (LQ G.N X.K μ H Q) from q1)
  cases hz
  rw [isN_ok r1]
  exact LQ.give q3 e1 w1.rel (.bl _)
theorem ce_notN (hC : MonoC C) {j pos'} (ha : CE G C hx X a ma) : CE G C hx X (.Compare a [.IsNot] [.Constant .none j pos'] pos) (.op .notN (.cons ma .nil)) := fun W tk y => by
  refine (pe_cmp (pc_notN (ha W tk y))).imp fun σ H Q ⟨μ, S, ρ, wd, q⟩ => ?_
  refine bindW (monoE hC ma) wd q fun v H1 μ1 S1 d e1 w1 r1 q1 => ?_
  obtain ⟨z, S3, hz, q3⟩ := opD_some (show opD G.T .notN [d] S1 (LQ G.N X.K μ H Q) from q1)
  cases hz
  rw [isN_ok r1]
  exact LQ.give q3 e1 w1.rel (.bl _)
/-! ### isinstance -/
/-- a class, as the text holds it -/
def ClOk (G : Gl) (K : PySem.W.Frag) (cl : Cl) (u : Value) : Prop := ∀ (μ : Mu) (S : Sto) (H : Hp) (v : V) (d : D) (b : Bool), Rel G.N K μ S H → RD K μ H v d → clsOf G.T S d cl = some b → ∃ t, TyX K H v t ∧ PySem.W.kitOne K t u = some b
theorem kit_le : ∀ a b : Ty, kitB a.name b.name = some (a.le b) := by
  intro a b
  cases a <;> cases b <;> decide +kernel
theorem clok_ty {K : PySem.W.Frag} {n : Ty} : ClOk G K (.ty n) (.type n.name) := fun μ S H v d b R rd e => by
  have fin : ∀ t : Ty, tyD S d = some (.inl t) → TyX K H v (.type t.name) → ∃ t, TyX K H v t ∧ PySem.W.kitOne K t (.type n.name) = some b := fun t h1 h2 => by
    unfold clsOf at e
    rw [h1] at e
    cases (show some (t.le n) = some b from e)
    exact ⟨_, h2, kit_ty (kit_le t n)⟩
  cases d with
  | non => rw [rd.non_inv] at fin ⊢; exact fin .non rfl (.base .non)
  | bl i => rw [rd.bl_inv] at fin ⊢; exact fin .bl rfl (.base (.bl _))
  | int i => rw [rd.int_inv] at fin ⊢; exact fin .int rfl (.base (.int _))
  | str i => rw [rd.str_inv] at fin ⊢; exact fin .str rfl (.base (.str _))
  | tup i =>
    obtain ⟨a, vs, rfl, g1, g2⟩ := rd.tup_inv
    exact fin .tup rfl (.base (.tup g1))
  | lis i => cases e
  | ref r =>
    cases hr : S[r]? with
    | none =>
      have z : tyD S (.ref r) = none := by simp only [tyD, hr]
      unfold clsOf at e; rw [z] at e; cases e
    | some ob =>
      cases ob with
      | lst ds =>
        obtain ⟨a, vs, rfl, g0, g1, g2⟩ := R.lst rd hr
        exact fin .lst (by simp only [tyD, hr]) (.base (.lst g1))
      | dic t l kv =>
        obtain ⟨a, rfl, g1, g2⟩ := R.ref rd hr
        cases l with
        | true =>
          have z : tyD S (.ref r) = none := by simp only [tyD, hr]
          unfold clsOf at e; rw [z] at e; cases e
        | false =>
          refine fin .dct (by simp only [tyD, hr]) ?_
          cases t with
          | false => obtain ⟨kv, i1, _⟩ := g2; exact .base (.dK i1)
          | true => obtain ⟨kv, i1, _⟩ := g2; exact .base (.dT i1)
      | ins c fs =>
        have z : tyD S (.ref r) = some (.inr c) := by simp only [tyD, hr]
        unfold clsOf at e; rw [z] at e; cases e
/-- an own class: what the top says of each of the text's classes beside it -/
structure OwnIs (K : PySem.W.Frag) (C : Addr) : Prop where
  cl : Cls K C
  ha : PySem.W.findIn K (.ref C) "__class__" = some (some (.builtin "object.__class__"))
  hn : PySem.W.specialIn K (.builtin "object.__class__") "__get__" = some (some (.builtin "getset_descriptor.__get__"))
  htk : PySem.W.takesIn K (.builtin "object.__class__") = some true
  hm : PySem.W.mroIn K C (.type "object") = some true
theorem clok_own {K : PySem.W.Frag} {j : Nat} {Cj : Addr} (h : ∀ c C, G.N.kap c = some C → OwnIs K C ∧ PySem.W.kitOne K (.ref C) (.ref Cj) = some (G.T.sub c j)) : ClOk G K (.own j) (.ref Cj) := fun μ S H v d b R rd e => by
  cases d with
  | ref r =>
    cases hr : S[r]? with
    | none =>
      have z : tyD S (.ref r) = none := by simp only [tyD, hr]
      unfold clsOf at e; rw [z] at e; cases e
    | some ob =>
      cases ob with
      | lst ds =>
        have z : tyD S (.ref r) = some (.inl .lst) := by simp only [tyD, hr]
        unfold clsOf at e; rw [z] at e; cases e
      | dic t l kv =>
        cases l with
        | true =>
          have z : tyD S (.ref r) = none := by simp only [tyD, hr]
          unfold clsOf at e; rw [z] at e; cases e
        | false =>
          have z : tyD S (.ref r) = some (.inl .dct) := by simp only [tyD, hr]
          unfold clsOf at e; rw [z] at e; cases e
      | ins c fs =>
        have z : tyD S (.ref r) = some (.inr c) := by simp only [tyD, hr]
        unfold clsOf at e; rw [z] at e
        cases (show some (G.T.sub c j) = some b from e)
        obtain ⟨p, rfl, g1, Cc, dx, fv, g2, g3, g4⟩ := R.ref rd hr
        obtain ⟨o, hk⟩ := h c Cc g2
        exact ⟨_, .base (.ins g3 o.cl o.ha o.hn o.htk o.hm), hk⟩
  | _ => cases e
theorem ce_isi (hC : MonoC C) {cl : Cl} {vc : V} {u : Value} {pc : Pos} {xc : Expr} (hcl : ClOk G X.K cl u) (hvc : ClsV vc u) (hc : PE X xc (tC vc)) (ha : CE G C hx X e m) (hg : L2.Gl X "isinstance") (hm : X.mg "isinstance" = none)
    (he : starEach (e :: [xc]) X.env = (false, eval e X.env) :: starEach [xc] X.env := by rfl) (hpl : (backTo pos (starEach [xc] X.env)).any (·.1) = false := by rfl)
    (hs1 : starEach [xc] X.env = (false, eval xc X.env) :: starEach [] X.env := by rfl) : CE G C hx X (.Call (.Name "isinstance" p) [e, xc] [] pos) (.op (.isi [cl]) (.cons m .nil)) := fun W tk y => by
  refine (pe_callB call_isi hg hm (by decide +kernel) (pa_cons (ha W tk y) (pa_cons hc pa_nil hs1) he) (by decide) (by decide) he hpl).imp fun σ H Q ⟨μ, S, ρ, wd, q⟩ => ?_
  refine bindW (monoE hC m) wd q fun v H1 μ1 S1 d e1 w1 r1 q1 => ?_
  obtain ⟨z, S3, hz, q3⟩ := opD_some (show opD G.T (.isi [cl]) [d] S1 (LQ G.N X.K μ H Q) from q1)
  replace hz : oIsi G.T [cl] [d] S1 = some (z, S3) := hz
  obtain ⟨b, hb, e2⟩ := Option.map_eq_some_iff.mp (show (clsOf G.T S1 d cl).map (fun k => ((.bl k : D), S1)) = some (z, S3) from hz)
  cases e2
  obtain ⟨t, g1, g2⟩ := hcl μ1 S1 H1 v d b w1.rel r1 hb
  exact ⟨v, vc, t, u, b, rfl, hvc, g1, g2, LQ.give q3 e1 w1.rel (.bl _)⟩
/-- a built-in class by its name -/
theorem pe_bty {n : String} {xn : Str} {pc : Pos} (hg : L2.Gl X xn) (hm : X.mg xn = none) (hb : bootBuiltins xn = some (.type n)) (hn : xn ≠ "__name__" := by decide) (hdb : (xn == ("__debug__" : Str)) = false := by decide) : PE X (.Name xn pc) (tC (.ty n)) := pe_bltn hg hm hb rfl hn hdb
theorem pe_own {Cj : Addr} {xn : Str} {pc : Pos} (hg : L2.Gl X xn) (hm : X.mg xn = some (.ref Cj)) (hdb : (xn == ("__debug__" : Str)) = false := by decide) : PE X (.Name xn pc) (tC (.ref Cj)) := pe_glob hg hm rfl hdb
end
end Mp
namespace Mp
open PySem PySem.Spec PyProof.Rows L2

/-- what is wanted behind a command, told of clean data -/
structure KD {G : Gl} {K : PySem.W.Frag} {W : WX} (x : Sx G K W) (k : Kt) (D : Ends) (μ : Mu) (H : Hp) : Prop where
  nx : ∀ μ' H' S' σ' ρ', Ext μ H μ' H' → Wd x σ' H' μ' S' ρ' → k.nx ρ' S' → D.nx σ' H'
  rt : ∀ μ' H' S' v d, Ext μ H μ' H' → Rel G.N K μ' S' H' → RD K μ' H' v d → k.rt d S' → D.rt v H'
  bk : ∀ μ' H' S' σ' ρ', Ext μ H μ' H' → Wd x σ' H' μ' S' ρ' → k.bk ρ' S' → D.bk σ' H'
  ct : ∀ μ' H' S' σ' ρ', Ext μ H μ' H' → Wd x σ' H' μ' S' ρ' → k.ct ρ' S' → D.ct σ' H'
theorem KD.ext {G : Gl} {K : PySem.W.Frag} {W : WX} {x : Sx G K W} {k : Kt} {D : Ends} {μ μ' : Mu} {H H' : Hp} (h : KD x k D μ H) (e : Ext μ H μ' H') : KD x k D μ' H' :=
  ⟨fun _ _ _ _ _ e' => h.nx _ _ _ _ _ (e.trans e'), fun _ _ _ _ _ e' => h.rt _ _ _ _ _ (e.trans e'), fun _ _ _ _ _ e' => h.bk _ _ _ _ _ (e.trans e'), fun _ _ _ _ _ e' => h.ct _ _ _ _ _ (e.trans e')⟩
/-- nothing hangs on the slots -/
def Sx.any {G : Gl} {K : PySem.W.Frag} {W : WX} (x : Sx G K W) : Prop := ∀ μ H σ, x.P μ H σ
/-- the reading of a command -/
def LS {G : Gl} {K : PySem.W.Frag} {W : WX} (x : Sx G K W) (m : Env → Sto → Kt → PX → Prop) : TS := fun D σ H => ∃ μ S ρ k, Wd x σ H μ S ρ ∧ m ρ S k x.EX ∧ KD x k D μ H

section
variable {G : Gl} {X : Cx} {C : Calls} {hx : Option Nat}
abbrev mC (G : Gl) (C : Calls) (hx : Option Nat) (s : Cm) : Env → Sto → Kt → PX → Prop := fun ρ S k EX => wpC G.T C hx s ρ S k EX
abbrev mCs (G : Gl) (C : Calls) (hx : Option Nat) (s : Cms) : Env → Sto → Kt → PX → Prop := fun ρ S k EX => wpCs G.T C hx s ρ S k EX
def CS (G : Gl) (C : Calls) (hx : Option Nat) (X : Cx) (st : Stmt) (c : Cm) : Prop := ∀ (W : WX) (_ : Takes X W) (x : Sx G X.K W), x.any → PS X st (LS x (mC G C hx c))
def CSs (G : Gl) (C : Calls) (hx : Option Nat) (X : Cx) (st : List Stmt) (c : Cms) : Prop := ∀ (W : WX) (_ : Takes X W) (x : Sx G X.K W), x.any → PSs X st (LS x (mCs G C hx c))
variable {e a b : Expr} {es : List Expr} {m ma mb : Tm} {ms : Tms} {pos p : Pos} {y : Str} {st : Stmt} {sts : List Stmt} {c : Cm} {cs : Cms}

theorem Wd.set {K : PySem.W.Frag} {W : WX} {x : Sx G K W} (ha : x.any) {σ : L2.St} {H : Hp} {μ : Mu} {S : Sto} {ρ : Env} (w : Wd x σ H μ S ρ) {i : Nat} {v : V} {d : D} (r : RD K μ H v d) : Wd x (σ.set i (some v)) H μ S (ρ.set i (some d)) :=
  ⟨w.ext, w.rel, w.re.set r, ha _ _ _⟩
/-! ### blocks -/
theorem css_nil : CSs G C hx X [] .nil := fun W tk x ha => pss_nil.imp fun σ H D ⟨μ, S, ρ, k, wd, q, kd⟩ => kd.nx μ H S σ ρ (Ext.refl _ _) wd q
theorem css_cons (h1 : CS G C hx X st c) (h2 : CSs G C hx X sts cs) : CSs G C hx X (st :: sts) (.cons c cs) := fun W tk x ha => by
  refine (pss_cons (h1 W tk x ha) (h2 W tk x ha)).imp fun σ H D ⟨μ, S, ρ, k, wd, q, kd⟩ => ?_
  refine ⟨μ, S, ρ, _, wd, q, ?_, kd.rt, kd.bk, kd.ct⟩
  exact fun μ' H' S' σ' ρ' e w n => ⟨μ', S', ρ', k, w, n, kd.ext e⟩
/-! ### simple commands -/
theorem cs_pass : CS G C hx X (.Pass pos) .pass := fun W tk x ha => ps_pass.imp fun σ H D ⟨μ, S, ρ, k, wd, q, kd⟩ => kd.nx μ H S σ ρ (Ext.refl _ _) wd q
theorem cs_brk : CS G C hx X (.Break pos) .brk := fun W tk x ha => ps_break.imp fun σ H D ⟨μ, S, ρ, k, wd, q, kd⟩ => kd.bk μ H S σ ρ (Ext.refl _ _) wd q
theorem cs_cont : CS G C hx X (.Continue pos) .cont := fun W tk x ha => ps_continue.imp fun σ H D ⟨μ, S, ρ, k, wd, q, kd⟩ => kd.ct μ H S σ ρ (Ext.refl _ _) wd q
theorem cs_ex (hC : MonoC C) (h : CE G C hx X e m) (hs : swapsWith e none pos.line X.env = pure false := by rfl) : CS G C hx X (.Expr e pos) (.ex m) := fun W tk x ha =>
  (ps_expr (h W tk x) hs).imp fun σ H D ⟨μ, S, ρ, k, wd, q, kd⟩ => bindW (monoE hC m) wd q fun v H1 μ1 S1 d e1 w1 r1 q1 => kd.nx μ1 H1 S1 σ ρ e1 w1 q1
theorem cs_ret (hC : MonoC C) (h : CE G C hx X e m) : CS G C hx X (.Return (some e) pos) (.ret m) := fun W tk x ha =>
  (ps_ret (h W tk x)).imp fun σ H D ⟨μ, S, ρ, k, wd, q, kd⟩ => bindW (monoE hC m) wd q fun v H1 μ1 S1 d e1 w1 r1 q1 => kd.rt μ1 H1 S1 v d e1 w1.rel r1 q1
theorem cs_retN : CS G C hx X (.Return none pos) .retN := fun W tk x ha => ps_retN.imp fun σ H D ⟨μ, S, ρ, k, wd, q, kd⟩ => kd.rt μ H S .non .non (Ext.refl _ _) wd.rel .non q
theorem cs_ite (hC : MonoC C) {cc : Expr} {sa sb : List Stmt} {ca cb : Cms} (hc : CT G C hx X cc m) (h1 : CSs G C hx X sa ca) (h2 : CSs G C hx X sb cb) : CS G C hx X (.If cc sa sb pos) (.ite m ca cb) := fun W tk x ha => by
  refine (ps_if (hc W tk x) (h1 W tk x ha) (h2 W tk x ha)).imp fun σ H D ⟨μ, S, ρ, k, wd, q, kd⟩ => ?_
  refine bindT (monoE hC m) wd q (fun d S1 q1 => ?_) fun b H1 μ1 S1 e1 w1 q1 => ?_
  · cases d with
    | bl b => exact ⟨b, rfl⟩
    | _ => exact q1.elim
  · cases b with
    | true => rw [if_pos rfl]; exact ⟨μ1, S1, ρ, k, w1, q1, kd.ext e1⟩
    | false => rw [if_neg Bool.false_ne_true]; exact ⟨μ1, S1, ρ, k, w1, q1, kd.ext e1⟩
/-! ### targets -/
/-- x = e -/
theorem cs_asg (hC : MonoC C) {i : Nat} {pos' : Pos} (hN : X.N.Nodup) (hi : X.N[i]? = some y) (hy : Loc X.env.scope y) (hf : X.fn y = true ∨ X.env.scope.names.lookup y = some .local) (h : CE G C hx X e m)
    (hs : swapsWith e (some (.Name y pos')) pos.line X.env = pure false := by rfl) : CS G C hx X (.Assign [.Name y pos'] e pos) (.asg i m) := fun W tk x ha => by
  refine (ps_set hN hi hy (h W tk x) hs hf).imp fun σ H D ⟨μ, S, ρ, k, wd, q, kd⟩ => ?_
  refine bindW (monoE hC m) wd q fun v H1 μ1 S1 d e1 w1 r1 q1 => ?_
  exact kd.nx μ1 H1 S1 _ _ e1 (w1.set ha r1) q1
/-- a target: what it does to the clean frame -/
inductive PGv (X : Cx) : List Expr → List Nat → TGs → Prop
  | nil : PGv X [] [] gNil
  | cons {y : Str} {i : Nat} {es : List Expr} {is : List Nat} {t : TGs} {pos : Pos} : X.N.Nodup → X.N[i]? = some y → Loc X.env.scope y → (X.fn y = true ∨ X.env.scope.names.lookup y = some .local) → PGv X es is t →
      (assignEach (.Name y pos :: es) X.env).map (·.2) = assign (.Name y pos) X.env :: (assignEach es X.env).map (·.2) → PGv X (.Name y pos :: es) (i :: is) (gCons (gName i) t)
theorem PGv.ok {es : List Expr} {is : List Nat} {t : TGs} (h : PGv X es is t) : PGs X es t := by
  induction h with
  | nil => exact pgs_nil
  | cons h1 h2 h3 h4 h5 h6 ih => exact pgs_cons (pg_name h1 h2 h3 h4) ih h6
theorem PGv.run {es : List Expr} {is : List Nat} {t : TGs} (h : PGv X es is t) {W : WX} {x : Sx G X.K W} (ha : x.any) {Q : L2.St → Hp → Prop} {H : Hp} {μ : Mu} {S : Sto} : ∀ {σ : L2.St} {ρ ρ' : Env} {vs : List V} {ds : List D}, Wd x σ H μ S ρ → RDs X.K μ H vs ds → asgs is ds ρ = some ρ' →
    (∀ σ', Wd x σ' H μ S ρ' → Q σ' H) → t vs σ H Q := by
  induction h with
  | nil =>
    intro σ ρ ρ' vs ds wd rd e q
    cases ds with
    | nil => cases e; cases rd; exact ⟨rfl, q σ wd⟩
    | cons _ _ => cases e
  | cons h1 h2 h3 h4 h5 h6 ih =>
    intro σ ρ ρ' vs ds wd rd e q
    cases rd with
    | nil => cases e
    | cons r1 r2 => exact ⟨_, _, rfl, ih (wd.set ha r1) r2 e q⟩
theorem asgs_len : ∀ {is : List Nat} {ds : List D} {ρ ρ' : Env}, asgs is ds ρ = some ρ' → ds.length = is.length
  | [], [], _, _, _ => rfl
  | [], _ :: _, _, _, h => by cases h
  | _ :: _, [], _, _, h => by cases h
  | i :: is, d :: ds, ρ, ρ', h => by simp [asgs_len (is := is) (ds := ds) h]
/-- x, y = e -/
theorem pgT_run {es : List Expr} {is : List Nat} {t : TGs} (h : PGv X es is t) {n : Nat} (hn : is.length = n) {W : WX} {x : Sx G X.K W} (ha : x.any) {Q : L2.St → Hp → Prop} {H : Hp} {μ : Mu} {S : Sto} {σ : L2.St} {ρ ρ' : Env} {v : V} {d : D} (wd : Wd x σ H μ S ρ) (rd : RD X.K μ H v d) (e : asgT is d ρ = some ρ')
    (q : ∀ σ', Wd x σ' H μ S ρ' → Q σ' H) : gTup X.K n t v σ H Q := by
  cases d with
  | tup ds =>
    obtain ⟨a, vs, rfl, g1, g2⟩ := rd.tup_inv
    exact ⟨a, vs, rfl, Mp.SqT.ofT g1, by rw [g2.length, asgs_len e, hn], h.run ha wd g2 e q⟩
  | _ => cases e
theorem cs_asgT (hC : MonoC C) {is : List Nat} {t : TGs} {kk : Nat} {pos' : Pos} (hc : X.calm = true) (ht : PGv X es is t) (h : CE G C hx X e m)
    (hn : (assignEach es X.env).length = is.length := by rfl) (hst : (assignEach es X.env).findIdx? (·.1) = none := by rfl)
    (hs : swapsWithSole [.Tuple es kk pos'] e pos.line X.env = pure false := by rfl) (hw : swappedStores [.Tuple es kk pos'] e X.env = pure none := by rfl)
    (h1 : (assignEach [.Tuple es kk pos'] X.env).map (·.2) = [assign (.Tuple es kk pos') X.env] := by rfl) : CS G C hx X (.Assign [.Tuple es kk pos'] e pos) (.asgT is m) := fun W tk x ha => by
  refine (ps_asg (h W tk x) (pg_tup hc ht.ok hn hst) hs hw h1).imp fun σ H D ⟨μ, S, ρ, k, wd, q, kd⟩ => ?_
  refine bindW (monoE hC m) wd q fun v H1 μ1 S1 d e1 w1 r1 q1 => ?_
  cases ez : asgT is d ρ with
  | none => rw [ez] at q1; exact q1.elim
  | some ρ' =>
    rw [ez] at q1
    exact pgT_run ht rfl ha w1 r1 ez fun σ' w' => kd.nx μ1 H1 S1 σ' ρ' e1 w' q1
/-! ### o[i] = e -/
def rDPut : TSet := fun o i v H Q => ∃ a H', o = .ref a ∧ DPut H a i v H' ∧ Q H'
theorem set_dict (hu : X.A.units + 1 < cLine) : PSet X rDPut := by
  intro pins s σ H o i v ov iv u Q I ro ri rv h
  obtain ⟨a, H', rfl, g, q⟩ := h
  obtain rfl : ov = Value.ref a := ro
  exact d_setItem hu I g ri rv fun s4 I4 => ⟨H', I4, q⟩
theorem PSet.or {t t' : TSet} (h : PSet X t) (h' : PSet X t') : PSet X fun o i v H Q => t o i v H Q ∨ t' o i v H Q := by
  intro pins s σ H o i v ov iv u Q I ro ri rv q
  rcases q with q | q
  · exact h pins s σ H o i v ov iv u Q I ro ri rv q
  · exact h' pins s σ H o i v ov iv u Q I ro ri rv q
theorem putK_RKT {K : PySem.W.Frag} {μ : Mu} {H : Hp} {v : V} {e : D} (rv : RD K μ H v e) {ds : List D} {k : List L2.Key} (hk : ds.mapM key1 = some k) (hr : RDs K μ H (k.map kV) ds) {kv : List (List L2.Key × V)} {kvs : List (D × D)} (h : RKT K μ H kv kvs) : RKT K μ H (putK kv k v) (put kvs (.tup ds) e) := by
  have any_eq : (kv.any fun p => decide (p.1 = k)) = (kvs.any fun p => decide (p.1 = D.tup ds)) := by
    clear rv
    induction h with
    | nil => rfl
    | @cons k' v' kv ds' e' kvs h1 h0 h2 h3 ih =>
      rw [List.any_cons, List.any_cons, ih]
      congr 1
      by_cases z : k' = k
      · subst z
        have z2 : ds' = ds := keys1_inj h1 hk
        subst z2; simp
      · have z2 : ¬ (D.tup ds' = D.tup ds) := fun q => by cases q; rw [hk] at h1; cases h1; exact z rfl
        simp [z, z2]
  have map_ok : RKT K μ H (kv.map fun p => if p.1 = k then (p.1, v) else p) (kvs.map fun p => if p.1 = D.tup ds then (p.1, e) else p) := by
    clear any_eq
    induction h with
    | nil => exact .nil
    | @cons k' v' kv ds' e' kvs h1 h0 h2 h3 ih =>
      rw [List.map_cons, List.map_cons]
      by_cases z : k' = k
      · subst z
        have z2 : ds' = ds := keys1_inj h1 hk
        subst z2
        simp only [if_pos]
        exact .cons h1 h0 rv ih
      · have z2 : ¬ (D.tup ds' = D.tup ds) := fun q => by cases q; rw [hk] at h1; cases h1; exact z rfl
        simp only [if_neg z, if_neg z2]
        exact .cons h1 h0 h2 ih
  have app : ∀ {kv : List (List L2.Key × V)} {kvs : List (D × D)}, RKT K μ H kv kvs → RKT K μ H (kv ++ [(k, v)]) (kvs ++ [(D.tup ds, e)]) := fun h => by
    induction h with
    | nil => exact .cons hk hr rv .nil
    | cons h1 h0 h2 h3 ih => exact .cons h1 h0 h2 ih
  unfold putK put
  rw [any_eq]
  split
  · exact map_ok
  · exact app h
theorem putK_RK1 {K : PySem.W.Frag} {μ : Mu} {H : Hp} {v : V} {e d : D} (rv : RD K μ H v e) {k : L2.Key} (hk : key1 d = some k) (hr : RD K μ H (kV k) d) {kv : List (L2.Key × V)} {kvs : List (D × D)} (h : RK1 K μ H kv kvs) : RK1 K μ H (putK kv k v) (put kvs d e) := by
  have any_eq : (kv.any fun p => decide (p.1 = k)) = (kvs.any fun p => decide (p.1 = d)) := by
    clear rv
    induction h with
    | nil => rfl
    | @cons k' v' kv d' e' kvs h1 h0 h2 h3 ih =>
      rw [List.any_cons, List.any_cons, ih]
      congr 1
      by_cases z : k' = k
      · subst z
        have z2 : d' = d := key1_inj h1 hk
        subst z2; simp
      · have z2 : ¬ (d' = d) := fun q => by subst q; rw [hk] at h1; cases h1; exact z rfl
        simp [z, z2]
  have map_ok : RK1 K μ H (kv.map fun p => if p.1 = k then (p.1, v) else p) (kvs.map fun p => if p.1 = d then (p.1, e) else p) := by
    clear any_eq
    induction h with
    | nil => exact .nil
    | @cons k' v' kv d' e' kvs h1 h0 h2 h3 ih =>
      rw [List.map_cons, List.map_cons]
      by_cases z : k' = k
      · subst z
        have z2 : d' = d := key1_inj h1 hk
        subst z2
        simp only [if_pos]
        exact .cons h1 h0 rv ih
      · have z2 : ¬ (d' = d) := fun q => by subst q; rw [hk] at h1; cases h1; exact z rfl
        simp only [if_neg z, if_neg z2]
        exact .cons h1 h0 h2 ih
  have app : ∀ {kv : List (L2.Key × V)} {kvs : List (D × D)}, RK1 K μ H kv kvs → RK1 K μ H (kv ++ [(k, v)]) (kvs ++ [(d, e)]) := fun h => by
    induction h with
    | nil => exact .cons hk hr rv .nil
    | cons h1 h0 h2 h3 ih => exact .cons h1 h0 h2 ih
  unfold putK put
  rw [any_eq]
  split
  · exact map_ok
  · exact app h
theorem set_ok {K : PySem.W.Frag} {μ : Mu} {S : Sto} {H : Hp} {x i v : V} {dx di dv : D} {Q : Sto → Prop} {Q' : Hp → Prop} (R : Rel G.N K μ S H) (h1 : RD K μ H x dx) (h2 : RD K μ H i di) (h3 : RD K μ H v dv) (h : setW dx di dv S Q)
    (q : ∀ H' S', Ext μ H μ H' → Rel G.N K μ S' H' → Q S' → Q' H') : rSetL x i v H Q' ∨ rDPut x i v H Q' := by
  unfold setW at h
  split at h
  · rename_i r
    split at h
    · rename_i ds hs
      split at h
      · rename_i k
        split at h
        · rename_i j hj
          obtain ⟨a, vs, rfl, g0, g1, g2⟩ := R.lst h1 hs
          have mu : Mut (H a) := by rw [g1]; trivial
          have ex : Ext μ H μ (upd H a (.lst (vs.set j v))) := Ext.upd (.inr mu)
          refine .inl ⟨a, vs, k, j, rfl, h2.int_inv, g1, by rw [g2.length]; exact hj, q _ _ ex (R.write (ob := .lst (ds.set j dv)) g0 mu ⟨_, upd_same, (g2.set h3 j).ext ex⟩) h⟩
        · exact h.elim
      · exact h.elim
    · rename_i t kvs hs
      obtain ⟨hk, hl, h⟩ := h
      obtain ⟨a, rfl, g0, g1⟩ := R.ref h1 hs
      cases t with
      | true =>
        obtain ⟨kv, i1, i2⟩ := g1
        obtain ⟨ks, hks⟩ := Option.isSome_iff_exists.mp (show (keyT di).isSome = true from hk)
        obtain ⟨b, rfl, hb⟩ := key_at h2 hks
        have mu : Mut (H a) := by rw [i1]; trivial
        have ex : Ext μ H μ (upd H a (.dT (putK kv ks v))) := Ext.upd (.inr mu)
        cases di with
        | tup es =>
          obtain ⟨b', vs', e', hb', hr'⟩ := h2.tup_inv
          cases e'
          rw [hb] at hb'; cases hb'
          refine .inr ⟨a, _, rfl, .inr ⟨kv, ks, b, i1, rfl, hb, by rw [i2.length, lim_eq]; exact hl, rfl⟩, q _ _ ex (R.write (ob := .dic true false (put kvs (.tup es) dv)) g0 mu ⟨_, upd_same, (putK_RKT h3 hks hr' i2).ext ex⟩) h⟩
        | _ => cases hks
      | false =>
        obtain ⟨kv, i1, i2⟩ := g1
        obtain ⟨ks, hks⟩ := Option.isSome_iff_exists.mp (show (key1 di).isSome = true from hk)
        have hkv := key1_kV h2 hks
        subst hkv
        have mu : Mut (H a) := by rw [i1]; trivial
        have ex : Ext μ H μ (upd H a (.dK (putK kv ks v))) := Ext.upd (.inr mu)
        refine .inr ⟨a, _, rfl, .inl ⟨kv, ks, i1, rfl, by rw [i2.length, lim_eq]; exact hl, rfl⟩, q _ _ ex (R.write (ob := .dic false false (put kvs di dv)) g0 mu ⟨_, upd_same, (putK_RK1 h3 hks h2 i2).ext ex⟩) h⟩
    · exact h.elim
  · exact h.elim
theorem cs_setX (hC : MonoC C) (hu : X.A.units + 65 < cLine) {o i : Expr} {mo mi : Tm} {pos' : Pos} (hv : CE G C hx X e m) (ho : CE G C hx X o mo) (hi : CE G C hx X i mi)
    (hsub : ∀ v, assign (.Subscript o i pos') X.env v = (do
      let ov ← holding [v] (eval o X.env)
      let iv ← holding [v, ov] (eval i X.env)
      standAt pos'
      holding [v, ov, iv] (setItem ov iv v)
      release [v, ov, iv] []) := by intro _; rfl)
    (hs : swapsWithSole [.Subscript o i pos'] e pos.line X.env = pure false := by rfl) (hw : swappedStores [.Subscript o i pos'] e X.env = pure none := by rfl)
    (h1 : (assignEach [.Subscript o i pos'] X.env).map (·.2) = [assign (.Subscript o i pos') X.env] := by rfl) : CS G C hx X (.Assign [.Subscript o i pos'] e pos) (.setX mo mi m) := fun W tk x ha => by
  refine (ps_asg (hv W tk x) (pg_sub (ho W tk x) (hi W tk x) (Mp.PSet.or set_list (set_dict (by omega))) hsub) hs hw h1).imp fun σ H D ⟨μ, S, ρ, k, wd, q, kd⟩ => ?_
  refine bindW (monoE hC m) wd q fun v H1 μ1 S1 d e1 w1 r1 q1 => ?_
  refine bindW (monoE hC mo) w1 q1 fun v2 H2 μ2 S2 d2 e2 w2 r2 q2 => ?_
  refine bindW (monoE hC mi) w2 q2 fun v3 H3 μ3 S3 d3 e3 w3 r3 q3 => ?_
  exact set_ok w3.rel (r2.ext e3) r3 ((r1.ext e2).ext e3) q3 fun H' S' ex R' n => kd.nx μ3 H' S' σ ρ (((e1.trans e2).trans e3).trans ex) (w3.next ex R') n
/-! ### o.f = e -/
theorem RF.put {nm : Nat → Str} (inj : ∀ f g, nm f = nm g → f = g) {K : PySem.W.Frag} {μ : Mu} {H : Hp} {v : V} {d : D} (rv : RD K μ H v d) (f : Nat) {fv : List (Str × V)} {fs : List (Nat × D)} (h : RF nm K μ H fv fs) : RF nm K μ H (putF (nm f) v fv) (putN f d fs) := by
  induction h with
  | nil => exact .cons rv .nil
  | @cons g v' fv d' fs h1 h2 ih =>
    unfold putF putN
    by_cases hg : g = f
    · subst hg; rw [if_pos rfl, if_pos rfl]; exact .cons rv h2
    · rw [if_neg fun z => hg (inj _ _ z), if_neg hg]; exact .cons h1 ih
theorem RF.length {nm : Nat → Str} {K : PySem.W.Frag} {μ : Mu} {H : Hp} {fv : List (Str × V)} {fs : List (Nat × D)} (h : RF nm K μ H fv fs) : fv.length = fs.length := by
  induction h with
  | nil => rfl
  | cons _ _ ih => simp [ih]
theorem cs_setA (hC : MonoC C) {f : Nat} {name : Str} {o : Expr} {mo : Tm} {pos' : Pos} (hcl : ClsAll G X.K) (hno : NoAt G X.K f) (hnm : G.N.nm f = name) (inj : ∀ f g, G.N.nm f = G.N.nm g → f = g) (hv : CE G C hx X e m) (ho : CE G C hx X o mo)
    (hs : swapsWith e (some (.Attribute o name pos')) pos.line X.env = pure false := by rfl) : CS G C hx X (.Assign [.Attribute o name pos'] e pos) (.setA mo f m) := fun W tk x ha => by
  subst hnm
  refine (ps_fld (ho W tk x) (hv W tk x) hs).imp fun σ H D ⟨μ, S, ρ, k, wd, q, kd⟩ => ?_
  refine bindW (monoE hC m) wd q fun v H1 μ1 S1 d e1 w1 r1 q1 => ?_
  refine bindW (monoE hC mo) w1 q1 fun v2 H2 μ2 S2 d2 e2 w2 r2 q2 => ?_
  split at q2
  · rename_i r
    split at q2
    · rename_i cc fs es
      obtain ⟨hl, q2⟩ := q2
      obtain ⟨a, rfl, g0, Cc, dx, fv, g1, g2, g3⟩ := w2.rel.ref r2 es
      have mu : Mut (H2 a) := by rw [g2]; trivial
      have ex : Ext μ2 H2 μ2 (upd H2 a (.ins Cc dx (putF (G.N.nm f) v fv))) := Ext.upd (.inr mu)
      refine ⟨a, Cc, dx, fv, rfl, g2, hcl cc Cc g1, hno cc Cc g1, by rw [Mp.RF.length g3]; exact hl, ?_⟩
      exact kd.nx μ2 _ _ σ ρ ((e1.trans e2).trans ex) (w2.next ex (w2.rel.write (ob := .ins cc (putN f d fs)) g0 mu ⟨Cc, dx, _, g1, upd_same, Mp.RF.ext ex (Mp.RF.put inj (r1.ext e2) f g3)⟩)) q2
    · exact q2.elim
  · exact q2.elim
end
end Mp
namespace Mp
open PySem PySem.Spec PyProof.Rows L2

/-- a walked thing, and the clean items that it gives -/
structure SrcOk (G : Gl) (K : PySem.W.Frag) (μ0 : Mu) (H0 : Hp) (J : It) (items : List D) (stand : Sto → Prop) : Prop where
  go : ∀ i μ S H, Ext μ0 H0 μ H → Rel G.N K μ S H → stand S → i < items.length → J.go i H
  stop : ∀ i μ S H, Ext μ0 H0 μ H → Rel G.N K μ S H → stand S → i = items.length → J.stop i H
  yld : ∀ i μ S H x H' d, Ext μ0 H0 μ H → Rel G.N K μ S H → stand S → items[i]? = some d → J.yld i H x H' → Ext μ H μ H' ∧ Rel G.N K μ S H' ∧ RD K μ H' x d
theorem SrcOk.low {G : Gl} {K : PySem.W.Frag} {μ0 μ1 : Mu} {H0 H1 : Hp} {J : It} {items : List D} {stand : Sto → Prop} (h : SrcOk G K μ0 H0 J items stand) (e : Ext μ0 H0 μ1 H1) : SrcOk G K μ1 H1 J items stand :=
  ⟨fun i μ S H e' => h.go i μ S H (e.trans e'), fun i μ S H e' => h.stop i μ S H (e.trans e'), fun i μ S H x H' d e' => h.yld i μ S H x H' d (e.trans e')⟩
section
variable {G : Gl} {K : PySem.W.Frag} {μ μ0 : Mu} {S : Sto} {H H0 : Hp}
theorem sql_det {a : Addr} {xs ys : List V} (h : SqL K H a xs) (h' : H a = some (.lst ys)) : xs = ys ∨ ∃ o its n, K.lookup a = some o ∧ o.data = .seq its n := by
  rcases h with (h | ⟨o, h⟩) | ⟨o, its, n, h1, _, _, h2, _⟩
  · rw [h'] at h; cases h; exact .inl rfl
  · rw [h'] at h; cases h
  · exact .inr ⟨o, its, n, h1, h2⟩
/-- a tuple -/
theorem src_tup {a : Addr} {vs : List V} {ds : List D} (h1 : H0 a = some (.tup vs)) (h2 : RDs K μ0 H0 vs ds) : SrcOk G K μ0 H0 (Itt K a) ds fun _ => True where
  go := fun i μ S H e R _ hi => by
    have hi' : i < vs.length := by rw [h2.length]; exact hi
    exact ⟨vs, vs[i], Mp.SqT.ofT (e.tup _ _ h1), List.getElem?_eq_getElem hi'⟩
  stop := fun i μ S H e R _ hi => ⟨vs, Mp.SqT.ofT (e.tup _ _ h1), by rw [hi, h2.length]; exact Nat.le_refl _⟩
  yld := fun i μ S H x H' d e R _ hd ⟨e1, e2⟩ => by
    subst e1
    obtain ⟨v, hv, rv⟩ := (h2.ext e).get hd
    have := e2 vs (Mp.SqT.ofT (e.tup _ _ h1))
    rw [hv] at this; cases this
    exact ⟨Ext.refl _ _, R, rv⟩
theorem src_seq {x : D} {v : V} {ds : List D} (R0 : Rel G.N K μ0 S H0) (h : RD K μ0 H0 v x) (hs : seqD S x = some ds) : ∃ a, v = .ref a ∧ (∃ xs, SqL K H0 a xs) ∧ SrcOk G K μ0 H0 (Itl K a) ds fun S' => seqD S' x = some ds := by
  obtain ⟨a, vs, rfl, g1, g2⟩ := R0.seq h hs
  refine ⟨a, rfl, ⟨vs, g1⟩, ?_⟩
  have at_ : ∀ (μ : Mu) (S : Sto) (H : Hp), Ext μ0 H0 μ H → Rel G.N K μ S H → seqD S x = some ds → ∃ ws, SqL K H a ws ∧ RDs K μ H ws ds := fun μ S H e R hs => by
    obtain ⟨a', ws, e', i1, i2⟩ := R.seq (h.ext e) hs
    cases e'
    exact ⟨ws, i1, i2⟩
  refine ⟨fun i μ S H e R hs hi => ?_, fun i μ S H e R hs hi => ?_, fun i μ S H y H' d e R hs hd ⟨e1, e2⟩ => ?_⟩
  · obtain ⟨ws, i1, i2⟩ := at_ μ S H e R hs
    have hi' : i < ws.length := by rw [i2.length]; exact hi
    exact ⟨ws, ws[i], i1, List.getElem?_eq_getElem hi'⟩
  · obtain ⟨ws, i1, i2⟩ := at_ μ S H e R hs
    exact ⟨ws, i1, by rw [hi, i2.length]; exact Nat.le_refl _⟩
  · subst e1
    obtain ⟨ws, i1, i2⟩ := at_ μ S _ e R hs
    obtain ⟨v, hv, rv⟩ := i2.get hd
    have := e2 ws i1
    rw [hv] at this; cases this
    exact ⟨Ext.refl _ _, R, rv⟩
theorem src_str {s : List Nat} (hc : Cok s) : SrcOk G K μ0 H0 (Its ⟨s.toArray⟩) (s.map fun c => .str [c]) fun _ => True where
  go := fun i μ S H e R _ hi => by simpa [Its] using hi
  stop := fun i μ S H e R _ hi => by simp [Its, hi]
  yld := fun i μ S H x H' d e R _ hd ⟨e1, c, e2, e3⟩ => by
    subst e1 e3
    have e2 : s[i]? = some c := by simpa using e2
    rw [List.getElem?_map, e2] at hd
    cases hd
    exact ⟨Ext.refl _ _, R, RD.str' (hc.one (List.mem_of_getElem? e2))⟩
theorem rng_at {i c : Int} {n j : Nat} {d : D} (h : (rngItems i c n)[j]? = some d) : j < n ∧ d = .int (i + (j : Nat) * c) := by
  unfold rngItems at h
  rw [List.getElem?_map] at h
  cases e : (List.range n)[j]? with
  | none => rw [e] at h; cases h
  | some k =>
    rw [e] at h
    have hj : j < n := by simpa using (List.getElem?_eq_some_iff.mp e).1
    have hk : k = j := by rw [List.getElem?_range hj] at e; cases e; rfl
    subst hk
    cases h
    exact ⟨hj, rfl⟩
theorem rng_len {i c : Int} {n : Nat} : (rngItems i c n).length = n := by simp [rngItems]
theorem src_rng1 {n : Nat} : SrcOk G K μ0 H0 (Itr 0 n) (rngItems 0 1 n) fun _ => True where
  go := fun i μ S H e R _ hi => by rw [rng_len] at hi; exact hi
  stop := fun i μ S H e R _ hi => by rw [rng_len] at hi; exact Nat.le_of_eq hi.symm
  yld := fun i μ S H x H' d e R _ hd ⟨e1, e2⟩ => by
    subst e1 e2
    obtain ⟨_, rfl⟩ := rng_at hd
    rw [Int.mul_one]
    exact ⟨Ext.refl _ _, R, .int _⟩
theorem src_rng3 {lo c : Int} {n : Nat} : SrcOk G K μ0 H0 (Itc lo c n) (rngItems lo c n) fun _ => True where
  go := fun i μ S H e R _ hi => by rw [rng_len] at hi; exact hi
  stop := fun i μ S H e R _ hi => by rw [rng_len] at hi; exact Nat.le_of_eq hi.symm
  yld := fun i μ S H x H' d e R _ hd ⟨e1, e2⟩ => by
    subst e1 e2
    obtain ⟨_, rfl⟩ := rng_at hd
    exact ⟨Ext.refl _ _, R, .int _⟩
end

section
variable {G : Gl} {X : Cx} {C : Calls} {hx : Option Nat}
variable {e a b : Expr} {es : List Expr} {m ma mb : Tm} {ms : Tms} {pos p : Pos} {y : Str} {st : Stmt} {sts : List Stmt} {c : Cm} {cs : Cms}
/-- what a loop walks: its rule -/
def CI (G : Gl) (C : Calls) (hx : Option Nat) (X : Cx) (tg iter : Expr) (m : Src) : Prop := ∀ (W : WX) (_ : Takes X W) (x : Sx G X.K W), PI X tg iter fun σ H R => ∃ μ S ρ, Wd x σ H μ S ρ ∧
  wpI G.T C hx m ρ S (fun w S1 => ∀ μ1 H1, Ext μ H μ1 H1 → Rel G.N X.K μ1 S1 H1 → ∀ J, SrcOk G X.K μ1 H1 J w.items w.stand → R J H1) x.EX
/-- a value is walked: a list, a tuple, a text -/
def iAny (K : PySem.W.Frag) (te : TE) : TI := fun σ H R => te σ H fun v H1 => (∃ a, v = .ref a ∧ (∃ xs, SqL K H1 a xs) ∧ R (Itl K a) H1) ∨ (∃ a, v = .ref a ∧ (∃ xs, SqT K H1 a xs) ∧ R (Itt K a) H1) ∨ ∃ z, v = .str z ∧ R (Its z) H1
theorem pi_any {tg : Expr} {te : TE} (he : PE X e te) : PI X tg e (iAny X.K te) := by
  refine ⟨fun pins s σ H R I h => ?_⟩
  refine thn (he.run pins s σ H _ I h) fun v s1 ⟨x, H1, I1, r1, q1⟩ => ?_
  rcases q1 with ⟨a, e, ⟨xs, hq⟩, q⟩ | ⟨a, e, ⟨xs, hq⟩, q⟩ | ⟨z, e, q⟩
  · subst e
    cases r1
    obtain ⟨its, rv, p, hz⟩ := I1.list hq
    refine wpAny_pyIter_list p.isList ?_
    refine ⟨s1.heap.objs.size, [s1.heap.objs.size], _, _, H1, rfl, I1.kept (t' := s1.toks) fun b o e => Heap.get?_push_of_some _ e, turn_list a _, ⟨_, Heap.get?_push_size _ rfl, rfl, rfl⟩, fun b hb => ?_, q⟩
    have e : b = s1.heap.objs.size := by simpa using hb
    subst e
    exact I1.fpOk (Nat.le_refl _) (I1.hok.fresh (Nat.le_refl _))
  · subst e
    cases r1
    obtain ⟨its, rv, p, hz⟩ := I1.tuple hq
    refine wpAny_pyIter_tuple (show s1.heap.IsTuple a its.toArray from p) ?_
    refine ⟨s1.heap.objs.size, [s1.heap.objs.size], _, _, H1, rfl, I1.kept (t' := s1.toks) fun b o e => Heap.get?_push_of_some _ e, turn_tuple a _, ⟨_, Heap.get?_push_size _ rfl, rfl, rfl⟩, fun b hb => ?_, q⟩
    have e : b = s1.heap.objs.size := by simpa using hb
    subst e
    exact I1.fpOk (Nat.le_refl _) (I1.hok.fresh (Nat.le_refl _))
  · subst e
    obtain ⟨t, rfl⟩ := r1
    cases ha : z.cps.all (· < 128)
    · exact wpAny_pyIter_wide ha (pi_one (tk := s1.toks) I1 _ (turn_str _ z t "str_iterator" (.inr rfl)) ⟨_, Heap.get?_push_size _ rfl, rfl, rfl⟩ q)
    · exact wpAny_pyIter_ascii ha (pi_one (tk := s1.toks) I1 _ (turn_str _ z t "str_ascii_iterator" (.inl rfl)) ⟨_, Heap.get?_push_size _ rfl, rfl, rfl⟩ q)
theorem wk_ok {K : PySem.W.Frag} {μ1 : Mu} {S1 : Sto} {H1 : Hp} {v : V} {d : D} {w : Wk} (R : Rel G.N K μ1 S1 H1) (r : RD K μ1 H1 v d) (hw : wkOf S1 d = some w) {Q : It → Hp → Prop} (q : ∀ J, SrcOk G K μ1 H1 J w.items w.stand → Q J H1) :
    (∃ a, v = .ref a ∧ (∃ xs, SqL K H1 a xs) ∧ Q (Itl K a) H1) ∨ (∃ a, v = .ref a ∧ (∃ xs, SqT K H1 a xs) ∧ Q (Itt K a) H1) ∨ ∃ z, v = .str z ∧ Q (Its z) H1 := by
  have seq : ∀ ds : List D, seqD S1 d = some ds → w = ⟨ds, fun S' => seqD S' d = some ds⟩ → ∃ a, v = .ref a ∧ (∃ xs, SqL K H1 a xs) ∧ Q (Itl K a) H1 := fun ds hs e => by
    subst e
    obtain ⟨a, h1, h2, h3⟩ := src_seq R r hs
    exact ⟨a, h1, h2, q _ h3⟩
  cases d with
  | tup ds =>
    cases hw
    obtain ⟨a, vs, rfl, g1, g2⟩ := r.tup_inv
    exact .inr (.inl ⟨a, rfl, ⟨vs, Mp.SqT.ofT g1⟩, q _ (src_tup g1 g2)⟩)
  | str s =>
    cases hw
    exact .inr (.inr ⟨⟨s.toArray⟩, r.str_inv, q _ (src_str r.cok)⟩)
  | lis ds =>
    obtain ⟨es, hs, e⟩ := Option.map_eq_some_iff.mp (show (seqD S1 (.lis ds)).map (fun es => (⟨es, fun S' => seqD S' (.lis ds) = some es⟩ : Wk)) = some w from hw)
    exact .inl (seq es hs e.symm)
  | ref n =>
    obtain ⟨es, hs, e⟩ := Option.map_eq_some_iff.mp (show (seqD S1 (.ref n)).map (fun es => (⟨es, fun S' => seqD S' (.ref n) = some es⟩ : Wk)) = some w from hw)
    exact .inl (seq es hs e.symm)
  | non => cases hw
  | bl b => cases hw
  | int i => cases hw
theorem ci_seq (hC : MonoC C) {tg : Expr} (h : CE G C hx X e m) : CI G C hx X tg e (.seq m) := fun W tk x =>
  (pi_any (h W tk x)).imp fun σ H R ⟨μ, S, ρ, wd, q⟩ => by
    refine bindW (monoE hC m) wd q fun v H1 μ1 S1 d e1 w1 r1 q1 => ?_
    cases ew : wkOf S1 d with
    | none => rw [ew] at q1; exact q1.elim
    | some w => rw [ew] at q1; exact wk_ok w1.rel r1 ew fun J hJ => q1 μ1 H1 e1 w1.rel J hJ
theorem ci_rng1 (hC : MonoC C) {tg : Expr} (hg : L2.Gl X "range") (hm : X.mg "range" = none) (h : CE G C hx X a ma) (hs : starEach [a] X.env = [(false, eval a X.env)] := by rfl) : CI G C hx X tg (.Call (.Name "range" p) [a] [] pos) (.rng1 ma) := fun W tk x =>
  (pi_range1 hg hm (pa_cons (h W tk x) pa_nil (by rw [hs]; rfl)) hs).imp fun σ H R ⟨μ, S, ρ, wd, q⟩ => by
    refine bindW (monoE hC ma) wd q fun v H1 μ1 S1 d e1 w1 r1 q1 => ?_
    cases d with
    | int j => exact ⟨j, by rw [r1.int_inv], q1.1, q1.2.1, q1.2.2 μ1 H1 e1 w1.rel _ src_rng1⟩
    | _ => exact q1.elim
theorem rangeSize_up {i j c : Int} (hc : 0 < c) : Builtin.Range.rangeSize i j c = (rngN i j c : Nat) := by
  unfold Builtin.Range.rangeSize rngN
  rw [if_pos hc]
  have e : j - i + c - 1 = (j - i - 1) + c := by omega
  by_cases h : i < j
  · rw [if_pos h, e, Int.add_ediv_of_dvd_right (Int.dvd_refl c), Int.ediv_self (by omega)]
    have : 0 ≤ (j - i - 1) / c := Int.ediv_nonneg (by omega) (by omega)
    omega
  · rw [if_neg h]
    have : (j - i + c - 1) / c ≤ 0 := by
      have h2 : (j - i + c - 1) / c < 1 := (Int.ediv_lt_iff_lt_mul hc).mpr (by omega)
      omega
    omega
theorem small_up {i j c : Int} (b1 : -(2 ^ 60) ≤ i) (b2 : i < 2 ^ 60) (b3 : -(2 ^ 60) ≤ j) (b4 : j < 2 ^ 60) (b5 : 0 < c) (b6 : c < 1073741824) : Builtin.Range.small i j c = true := by
  have h1 : (Builtin.Range.rangeSize i j c) ≤ 2 ^ 61 := by
    unfold Builtin.Range.rangeSize
    rw [if_pos b5]
    split
    · have : (j - i - 1) / c ≤ j - i - 1 := Int.ediv_le_self _ (by omega)
      omega
    · omega
  have h2 : 0 ≤ Builtin.Range.rangeSize i j c := by rw [rangeSize_up b5]; omega
  unfold Builtin.Range.small
  simp only [Builtin.Range.rangeFitsLong, Bool.and_eq_true, Bool.or_eq_true, decide_eq_true_eq, beq_iff_eq, b5, if_true]
  omega
theorem ci_rng3 (hC : MonoC C) {tg : Expr} {e3 : Expr} {m3 : Tm} (hg : L2.Gl X "range") (hm : X.mg "range" = none) (h1 : CE G C hx X a ma) (h2 : CE G C hx X b mb) (h3 : CE G C hx X e3 m3)
    (hs : starEach [a, b, e3] X.env = (false, eval a X.env) :: starEach [b, e3] X.env := by rfl) (hs2 : starEach [b, e3] X.env = (false, eval b X.env) :: starEach [e3] X.env := by rfl) (hs3 : starEach [e3] X.env = (false, eval e3 X.env) :: starEach [] X.env := by rfl)
    (hpl : (backTo pos (starEach [b, e3] X.env)).any (·.1) = false := by rfl) : CI G C hx X tg (.Call (.Name "range" p) [a, b, e3] [] pos) (.rng3 ma mb m3) := fun W tk x =>
  (pi_range3 hg hm (pa_cons (h1 W tk x) (pa_cons (h2 W tk x) (pa_cons (h3 W tk x) pa_nil hs3) hs2) hs) hs hpl).imp fun σ H R ⟨μ, S, ρ, wd, q⟩ => by
    refine bindW (monoE hC ma) wd q fun v1 H1 μ1 S1 d1 e1 w1 r1 q1 => ?_
    refine bindW (monoE hC mb) w1 q1 fun v2 H2 μ2 S2 d2 e2 w2 r2 q2 => ?_
    refine bindW (monoE hC m3) w2 q2 fun v3 H3 μ3 S3 d3 e3 w3 r3 q3 => ?_
    split at q3
    · rename_i i j c
      obtain ⟨⟨b1, b2, b3, b4, b5, b6⟩, q3⟩ := q3
      refine ⟨i, j, c, rngN i j c, by rw [r1.int_inv, r2.int_inv, r3.int_inv], ⟨by omega, by omega, small_up b1 b2 b3 b4 b5 b6, rangeSize_up b5⟩, q3 μ3 H3 ((e1.trans e2).trans e3) w3.rel _ src_rng3⟩
    · exact q3.elim
/-- a target: what it does to the slots is what it does to the clean frame -/
def TGok (G : Gl) (X : Cx) (g : TG) (f : D → Env → Option Env) : Prop := ∀ (W : WX) (x : Sx G X.K W), x.any → ∀ (Q : L2.St → Hp → Prop) (H : Hp) (μ : Mu) (S : Sto) (σ : L2.St) (ρ ρ' : Env) (v : V) (d : D), Wd x σ H μ S ρ → RD X.K μ H v d → f d ρ = some ρ' → (∀ σ', Wd x σ' H μ S ρ' → Q σ' H) → g v σ H Q
theorem tg_name {i : Nat} : TGok G X (gName i) (asg1 i) := fun W x ha Q H μ S σ ρ ρ' v d wd rd e q => by
  cases e
  exact q _ (wd.set ha rd)
theorem tg_tup {es : List Expr} {is : List Nat} {t : TGs} {n : Nat} (h : PGv X es is t) (hn : is.length = n) : TGok G X (gTup X.K n t) (asgT is) := fun W x ha Q H μ S σ ρ ρ' v d wd rd e q => pgT_run h hn ha wd rd e q
/-- the turns of a loop -/
theorem for_core (hC : MonoC C) {W : WX} {x : Sx G X.K W} (ha : x.any) {J : It} {items : List D} {stand : Sto → Prop} {g : TG} {f : D → Env → Option Env} (hg : TGok G X g f) {k : Kt} {D : Ends} {μ1 : Mu} {S1 : Sto} {H1 : Hp} {σ1 : L2.St} {ρ1 : Env} (wd : Wd x σ1 H1 μ1 S1 ρ1)
    (hJ : SrcOk G X.K μ1 H1 J items stand) (q : foN f stand (fun ρ S K => wpCs G.T C hx cs ρ S K x.EX) k items ρ1 S1) (kd : KD x k D μ1 H1) :
    ∃ Wm : Nat → Nat → L2.St → Hp → Prop, (∃ m, Wm 0 m σ1 H1) ∧ ∀ i m σ H, Wm i m σ H →
      (J.stop i H ∧ D.nx σ H) ∨ (J.go i H ∧ ∃ N : L2.St → Hp → Prop, (∀ σ' H', N σ' H' → ∃ m', m' < m ∧ Wm (i + 1) m' σ' H') ∧ ∀ v H', J.yld i H v H' → g v σ H' fun σ2 H2 => LS x (mCs G C hx cs) { D with nx := N, ct := N, bk := D.nx } σ2 H2) := by
  refine ⟨fun i m σ H => m = items.length - i ∧ i ≤ items.length ∧ ∃ μ S ρ, Ext μ1 H1 μ H ∧ Wd x σ H μ S ρ ∧ foN f stand (fun ρ S K => wpCs G.T C hx cs ρ S K x.EX) k (items.drop i) ρ S, ⟨_, rfl, Nat.zero_le _, μ1, S1, ρ1, Ext.refl _ _, wd, q⟩, ?_⟩
  rintro i m σ H ⟨rfl, hi, μ, S, ρ, e, w, fo⟩
  by_cases hlt : i < items.length
  · have hdrop : items.drop i = items[i] :: items.drop (i + 1) := List.drop_eq_getElem_cons hlt
    rw [hdrop] at fo
    obtain ⟨st, fo⟩ := fo
    refine .inr ⟨hJ.go i μ S H e w.rel st hlt, fun σ' H' => i + 1 ≤ items.length ∧ ∃ μ' S' ρ', Ext μ1 H1 μ' H' ∧ Wd x σ' H' μ' S' ρ' ∧ foN f stand (fun ρ S K => wpCs G.T C hx cs ρ S K x.EX) k (items.drop (i + 1)) ρ' S', fun σ' H' ⟨h1, h2⟩ => ⟨items.length - (i + 1), by omega, rfl, h1, h2⟩, fun v H' y => ?_⟩
    obtain ⟨e2, R2, rv⟩ := hJ.yld i μ S H v H' items[i] e w.rel st (List.getElem?_eq_getElem hlt) y
    cases ef : f items[i] ρ with
    | none => rw [ef] at fo; exact fo.elim
    | some ρ' =>
      rw [ef] at fo
      refine hg W x ha _ H' μ S σ ρ ρ' v items[i] (w.next e2 R2) rv ef fun σ' w' => ?_
      refine ⟨μ, S, ρ', _, w', fo, ?_⟩
      have kd2 := kd.ext (e.trans e2)
      exact ⟨fun μ' H3 S' σ3 ρ3 e3 w3 n3 => ⟨hlt, μ', S', ρ3, (e.trans e2).trans e3, w3, n3⟩, kd2.rt, fun μ' H3 S' σ3 ρ3 e3 w3 n3 => kd2.nx μ' H3 S' σ3 ρ3 e3 w3 n3, fun μ' H3 S' σ3 ρ3 e3 w3 n3 => ⟨hlt, μ', S', ρ3, (e.trans e2).trans e3, w3, n3⟩⟩
  · have ei : i = items.length := by omega
    subst ei
    rw [List.drop_length] at fo
    exact .inl ⟨hJ.stop _ μ S H e w.rel fo.1 rfl, kd.nx μ H S σ ρ e w fo.2⟩
theorem monoI (hC : MonoC C) {m : Src} {ρ : Env} {S : Sto} {Q Q' : Wk → Sto → Prop} {EX : PX} (h : wpI G.T C hx m ρ S Q EX) (hQ : ∀ w S', Q w S' → Q' w S') : wpI G.T C hx m ρ S Q' EX := wpI_mono hC m ρ S Q Q' EX EX hQ (fun _ _ z => z) h
theorem cs_for (hC : MonoC C) {tg iter : Expr} {m : Src} {g : TG} {f : D → Env → Option Env} {body : List Stmt} (hp : PassesOwn (model X.prog X.w) X.A X.env X.xe) (hc : X.calm = true) (hi : CI G C hx X tg iter m) (hg : PG X tg g) (hgo : TGok G X g f) (hb : CSs G C hx X body cs)
    (hs : ∀ z, foldedSetIterable iter X.env z = pure z) {W : WX} (tk : Takes X W) (x : Sx G X.K W) (ha : x.any) :
    PS X (.For tg iter body [] pos) (LS x fun ρ S k EX => wpI G.T C hx m ρ S (fun w S1 => foN f w.stand (fun ρ S K => wpCs G.T C hx cs ρ S K EX) k w.items ρ S1) EX) := by
  refine (ps_for hp hc (hi W tk x) hg (hb W tk x ha) hs).imp fun σ H D ⟨μ, S, ρ, k, wd, q, kd⟩ => ?_
  refine ⟨μ, S, ρ, wd, monoI hC q fun w S1 q1 μ1 H1 e1 R1 J hJ => ?_⟩
  exact for_core hC ha hgo (wd.next e1 R1) hJ q1 (kd.ext e1)
theorem cs_for1 (hC : MonoC C) {iter : Expr} {m : Src} {i : Nat} {pos' : Pos} {body : List Stmt} (hp : PassesOwn (model X.prog X.w) X.A X.env X.xe) (hc : X.calm = true) (hN : X.N.Nodup) (hn : X.N[i]? = some y) (hy : Loc X.env.scope y) (hf : X.fn y = true ∨ X.env.scope.names.lookup y = some .local)
    (hi : CI G C hx X (.Name y pos') iter m) (hb : CSs G C hx X body cs) (hs : ∀ z, foldedSetIterable iter X.env z = pure z := by intro _; rfl) : CS G C hx X (.For (.Name y pos') iter body [] pos) (.for1 i m cs) := fun W tk x ha =>
  cs_for hC hp hc hi (pg_name hN hn hy hf) tg_name hb hs tk x ha
theorem cs_forT (hC : MonoC C) {iter : Expr} {m : Src} {is : List Nat} {t : TGs} {kk : Nat} {pos' : Pos} {body : List Stmt} (hp : PassesOwn (model X.prog X.w) X.A X.env X.xe) (hc : X.calm = true) (ht : PGv X es is t) (hn : (assignEach es X.env).length = is.length := by rfl) (hst : (assignEach es X.env).findIdx? (·.1) = none := by rfl)
    (hi : CI G C hx X (.Tuple es kk pos') iter m) (hb : CSs G C hx X body cs) (hs : ∀ z, foldedSetIterable iter X.env z = pure z := by intro _; rfl) : CS G C hx X (.For (.Tuple es kk pos') iter body [] pos) (.forT is m cs) := fun W tk x ha =>
  cs_for hC hp hc hi (pg_tup hc ht.ok hn hst) (tg_tup ht rfl) hb hs tk x ha
/-! ### while -/
theorem cs_whil (hC : MonoC C) {cc : Expr} {body : List Stmt} (hp : PassesOwn (model X.prog X.w) X.A X.env X.xe) (hc : CT G C hx X cc m) (hb : CSs G C hx X body cs) : CS G C hx X (.While cc body [] pos) (.whil m cs) := fun W tk x ha => by
  refine (ps_while hp (hc W tk x) (hb W tk x ha)).imp fun σ H D ⟨μ, S, ρ, k, wd, ⟨n, q⟩, kd⟩ => ?_
  refine ⟨fun m' σ' H' => ∃ μ' S' ρ', Ext μ H μ' H' ∧ Wd x σ' H' μ' S' ρ' ∧ whN (fun ρ S Q => wpT G.T C hx m ρ S Q x.EX) (fun ρ S K => wpCs G.T C hx cs ρ S K x.EX) k m' ρ' S', ⟨n, μ, S, ρ, Ext.refl _ _, wd, q⟩, ?_⟩
  rintro m' σ' H' ⟨μ', S', ρ', e, w, wh⟩
  cases m' with
  | zero => exact wh.elim
  | succ m' =>
    refine bindT (monoE hC m) w wh (fun d S1 q1 => ?_) fun b H1 μ1 S1 e1 w1 q1 => ?_
    · cases d with
      | bl b => exact ⟨b, rfl⟩
      | _ => exact q1.elim
    · cases b with
      | true =>
        have kd1 := kd.ext (e.trans e1)
        refine ⟨fun σ2 H2 => ∃ μ2 S2 ρ2, Ext μ H μ2 H2 ∧ Wd x σ2 H2 μ2 S2 ρ2 ∧ whN (fun ρ S Q => wpT G.T C hx m ρ S Q x.EX) (fun ρ S K => wpCs G.T C hx cs ρ S K x.EX) k m' ρ2 S2, fun σ2 H2 h => ⟨m', Nat.lt_succ_self _, h⟩, ?_⟩
        refine ⟨μ1, S1, ρ', _, w1, q1, ?_⟩
        exact ⟨fun μ2 H2 S2 σ2 ρ2 e2 w2 n2 => ⟨μ2, S2, ρ2, (e.trans e1).trans e2, w2, n2⟩, kd1.rt, fun μ2 H2 S2 σ2 ρ2 e2 w2 n2 => kd1.nx μ2 H2 S2 σ2 ρ2 e2 w2 n2, fun μ2 H2 S2 σ2 ρ2 e2 w2 n2 => ⟨μ2, S2, ρ2, (e.trans e1).trans e2, w2, n2⟩⟩
      | false => exact kd.nx μ1 H1 S1 σ' ρ' (e.trans e1) w1 q1
end
end Mp
namespace Mp
open PySem PySem.Spec PyProof.Rows L2

abbrev W0 : WX := fun _ _ _ _ => False
/-- in a comprehension's block nothing is raised -/
def LE0 (G : Gl) (K : PySem.W.Frag) (m : M) : TE := fun σ H Q => ∃ x : Sx G K W0, x.EX = (fun _ _ => False) ∧ LE x m σ H Q
def LT0 (G : Gl) (K : PySem.W.Frag) (m : M) : TT := fun σ H Q => ∃ x : Sx G K W0, x.EX = (fun _ _ => False) ∧ LT x m σ H Q
section
variable {G : Gl} {X : Cx} {C : Calls} {hx : Option Nat}
variable {e a b : Expr} {es : List Expr} {m ma mb : Tm} {ms : Tms} {pos p : Pos} {y : Str}
theorem pe0 {X : Cx} (h : CE G C hx X e m) : PE X e (LE0 G X.K (mE G C hx m)) := ⟨fun pins s σ H Q I ⟨x, _, q⟩ => (h W0 takes0 x).run pins s σ H Q I q⟩
theorem pt0 {X : Cx} (h : CT G C hx X e m) : PT X e (LT0 G X.K (mE G C hx m)) := ⟨fun pins s σ H Q I ⟨x, _, q⟩ => (h W0 takes0 x).run pins s σ H Q I q⟩
/-- the clean turn: with a test or without -/
def turnOf (G : Gl) (C : Calls) (hx : Option Nat) (i : Nat) (me : Tm) (mt : Option Tm) (ρ : Env) : D → Sto → (Option D → Sto → Prop) → Prop := fun x S2 k => match mt with
  | none => wpE G.T C hx me (ρ.set i (some x)) S2 (fun d S3 => k (some d) S3) fun _ _ => False
  | some t => wpE G.T C hx t (ρ.set i (some x)) S2 (fun z S3 => match z with
    | .bl true => wpE G.T C hx me (ρ.set i (some x)) S3 (fun d S4 => k (some d) S4) fun _ _ => False
    | .bl false => k none S3
    | _ => False) fun _ _ => False
def tst (G : Gl) (K : PySem.W.Frag) (C : Calls) (hx : Option Nat) : Option Tm → TT
  | none => tYes
  | some t => LT0 G K (mE G C hx t)
theorem tYes_of {σ : L2.St} {H : Hp} {A B : Hp → Prop} (h : A H) : tYes σ H (fun b H3 => if b = true then A H3 else B H3) := by
  show (if true = true then A H else B H)
  rw [if_pos rfl]; exact h
theorem comp_core (hC : MonoC C) {W : WX} {x : Sx G X.K W} {J : It} {items : List D} {stand : Sto → Prop} {i : Nat} {me : Tm} {mt : Option Tm} {Q : VK} {μ0 μ1 : Mu} {S1 : Sto} {H0 H1 : Hp} {σ1 : L2.St} {ρ1 : Env} (wd : Wd x σ1 H1 μ1 S1 ρ1) (e0 : Ext μ0 H0 μ1 H1)
    (hJ : SrcOk G X.K μ1 H1 J items stand) (q : compN S1.length stand (turnOf G C hx i me mt ρ1) (fun S2 => LQ G.N X.K μ0 H0 Q (.ref S1.length) S2) items [] (S1 ++ [.lst []])) (D : Addr) (hD : H1 D = none) :
    ∃ Wm : Nat → Nat → Hp → Prop, (∃ m, Wm 0 m (upd H1 D (.lst []))) ∧ ∀ j m H, Wm j m H →
      (J.stop j H ∧ Q (.ref D) H) ∨ (J.go j H ∧ ∃ Nx : Hp → Prop, (∀ H', Nx H' → ∃ m', m' < m ∧ Wm (j + 1) m' H') ∧ ∀ v H', J.yld j H v H' → gName i v (wipe σ1 [i]) H' fun σ2 H2 => wipe σ2 [i] = wipe σ1 [i] ∧ tst G X.K C hx mt σ2 H2 fun b H3 =>
        if b = true then LE0 G X.K (mE G C hx me) σ2 H3 fun y H4 => ∃ acc, H4 D = some (.lst acc) ∧ acc.length < sizeLine ∧ Nx (upd H4 D (.lst (acc ++ [y]))) else Nx H3) := by
  have fresh := hD
  have hl : SrcOk G X.K (muAdd μ1 S1.length D) (upd H1 D (.lst [])) J items stand := hJ.low (wd.rel.pushExt hD)
  have eD : Ext μ1 H1 (muAdd μ1 S1.length D) (upd H1 D (.lst [])) := wd.rel.pushExt hD
  have R1 : Rel G.N X.K (muAdd μ1 S1.length D) (S1 ++ [.lst []]) (upd H1 D (.lst [])) := wd.rel.push (ob := .lst []) hD ⟨[], upd_same, .nil⟩
  have eLast : ∀ {μ : Mu} {H : Hp}, Ext (muAdd μ1 S1.length D) (upd H1 D (.lst [])) μ H → μ S1.length = some D := fun e => e.mu _ _ muAdd_self
  refine ⟨fun j m H => m = items.length - j ∧ j ≤ items.length ∧ ∃ μ S acc, Ext (muAdd μ1 S1.length D) (upd H1 D (.lst [])) μ H ∧ Rel G.N X.K μ S H ∧ compN S1.length stand (turnOf G C hx i me mt ρ1) (fun S2 => LQ G.N X.K μ0 H0 Q (.ref S1.length) S2) (items.drop j) acc S,
    ⟨_, rfl, Nat.zero_le _, _, _, [], Ext.refl _ _, R1, q⟩, ?_⟩
  rintro j m H ⟨rfl, hj, μ, S, acc, e, R, cn⟩
  by_cases hlt : j < items.length
  · have hdrop : items.drop j = items[j] :: items.drop (j + 1) := List.drop_eq_getElem_cons hlt
    rw [hdrop] at cn
    obtain ⟨st, ac, tu⟩ := cn
    refine .inr ⟨hl.go j μ S H e R st hlt, fun H' => j + 1 ≤ items.length ∧ ∃ μ' S' acc', Ext (muAdd μ1 S1.length D) (upd H1 D (.lst [])) μ' H' ∧ Rel G.N X.K μ' S' H' ∧ compN S1.length stand (turnOf G C hx i me mt ρ1) (fun S2 => LQ G.N X.K μ0 H0 Q (.ref S1.length) S2) (items.drop (j + 1)) acc' S', fun H' ⟨h1, h2⟩ => ⟨items.length - (j + 1), by omega, rfl, h1, h2⟩, fun v H' yy => ?_⟩
    obtain ⟨e2, R2, rv⟩ := hl.yld j μ S H v H' items[j] e R st (List.getElem?_eq_getElem hlt) yy
    show wipe ((wipe σ1 [i]).set i (some v)) [i] = wipe σ1 [i] ∧ _
    have hσ : (wipe σ1 [i]).set i (some v) = σ1.set i (some v) := by
      show (σ1.set i none).set i (some v) = _
      rw [List.set_set]
    have re2 : RE X.K μ H' (ρ1.set i (some items[j])) ((wipe σ1 [i]).set i (some v)) := by
      rw [hσ]
      exact (((wd.re.ext eD).ext e).ext e2).set rv
    refine ⟨by show ((σ1.set i none).set i (some v)).set i none = σ1.set i none; rw [List.set_set, List.set_set], ?_⟩
    -- a new item
    have more : ∀ (μ3 : Mu) (S3 : Sto) (H3 : Hp), Ext μ H' μ3 H3 → Rel G.N X.K μ3 S3 H3 → wpE G.T C hx me (ρ1.set i (some items[j])) S3 (fun d S4 => S4[S1.length]? = some (.lst acc) ∧ acc.length < LIM ∧ compN S1.length stand (turnOf G C hx i me mt ρ1) (fun S2 => LQ G.N X.K μ0 H0 Q (.ref S1.length) S2) (items.drop (j + 1)) (acc ++ [d]) (S4.set S1.length (.lst (acc ++ [d])))) (fun _ _ => False) →
        LE0 G X.K (mE G C hx me) ((wipe σ1 [i]).set i (some v)) H3 fun y H4 => ∃ acc, H4 D = some (.lst acc) ∧ acc.length < sizeLine ∧ (j + 1 ≤ items.length ∧ ∃ μ' S' acc', Ext (muAdd μ1 S1.length D) (upd H1 D (.lst [])) μ' (upd H4 D (.lst (acc ++ [y]))) ∧ Rel G.N X.K μ' S' (upd H4 D (.lst (acc ++ [y]))) ∧
          compN S1.length stand (turnOf G C hx i me mt ρ1) (fun S2 => LQ G.N X.K μ0 H0 Q (.ref S1.length) S2) (items.drop (j + 1)) acc' S') := fun μ3 S3 H3 e3 R3 w3 => by
      refine ⟨Sx.none_ G X.K W0 μ3 H3, rfl, μ3, S3, ρ1.set i (some items[j]), ⟨Ext.refl _ _, R3, re2.ext e3, trivial⟩, ?_⟩
      refine monoE hC me _ _ _ _ _ _ (fun d S4 ⟨g1, g2, g3⟩ => ?_) (fun _ _ z => z) w3
      intro μ4 H4 y e4 R4 r4
      have e14 := ((e.trans e2).trans e3).trans e4
      obtain ⟨a', ha', vs, hv, hr⟩ := R4.at_ _ _ g1
      rw [eLast e14] at ha'
      cases ha'
      have mu : Mut (H4 D) := by rw [hv]; trivial
      have ex : Ext μ4 H4 μ4 (upd H4 D (.lst (vs ++ [y]))) := Ext.upd (.inr mu)
      refine ⟨vs, hv, by rw [hr.length, lim_eq]; exact g2, hlt, μ4, _, acc ++ [d], e14.trans ex, R4.write (ob := .lst (acc ++ [d])) (eLast e14) mu ⟨_, upd_same, (hr.append (.cons r4 .nil)).ext ex⟩, g3⟩
    cases mt with
    | none =>
      unfold tst tYes
      dsimp only
      rw [if_pos rfl]
      exact more μ S H' (Ext.refl _ _) R2 tu
    | some t =>
      refine ⟨Sx.none_ G X.K W0 μ H', rfl, μ, S, ρ1.set i (some items[j]), ⟨Ext.refl _ _, R2, re2, trivial⟩, ?_⟩
      refine monoE hC t _ _ _ _ _ _ (fun z S3 g => ?_) (fun _ _ z => z) tu
      split at g
      · intro μ3 H3 e3 R3
        rw [if_pos rfl]
        exact more μ3 S3 H3 e3 R3 g
      · intro μ3 H3 e3 R3
        rw [if_neg Bool.false_ne_true]
        exact ⟨hlt, μ3, S3, acc, (e.trans e2).trans e3, R3, g⟩
      · exact g.elim
  · have ei : j = items.length := by omega
    subst ei
    rw [List.drop_length] at cn
    obtain ⟨st, ac, q2⟩ := cn
    exact .inl ⟨hl.stop _ μ S H e R st rfl, q2 μ H (.ref D) ((e0.trans eD).trans e) R (.ref (eLast e))⟩
/-- the parts of a comprehension's rule -/
structure CompR (G : Gl) (C : Calls) (hx : Option Nat) (X : Cx) (elt : Expr) (y : Str) (i : Nat) (pt : Pos) (iter : Expr) (ifs : List Expr) (scope : Scope) (src : Src) (me : Tm) (mt : Option Tm) : Prop where
  calm : X.calm = true
  nd : X.N.Nodup
  src : CI G C hx X (.Name y pt) iter src
  ok : BlkOk X.N X.env.scope scope [(y, i)]
  hg : ∀ (s : Shared) (H : Hp) (D : Addr) (cl : List (Str × Addr)) (fp : List Addr), PG (X.blk s H scope (compEnvC scope cl D X.env) fp) (.Name y pt) (gName i)
  ht : ∀ (s : Shared) (H : Hp) (D : Addr) (cl : List (Str × Addr)) (fp : List Addr), PTs (X.blk s H scope (compEnvC scope cl D X.env) fp) ifs (tst G X.K C hx mt)
  he : ∀ (s : Shared) (H : Hp) (D : Addr) (cl : List (Str × Addr)) (fp : List Addr), CE G C hx (X.blk s H scope (compEnvC scope cl D X.env) fp) elt me
  hs : ∀ x, foldedSetIterable iter X.env x = pure x
def compTm (me : Tm) (i : Nat) (src : Src) : Option Tm → Tm
  | none => .comp me i src
  | some t => .compIf me i src t
theorem comp_wp {me : Tm} {i : Nat} {src : Src} {mt : Option Tm} {ρ : Env} {S : Sto} {Q : PQ} {EX : PX} (h : wpE G.T C hx (compTm me i src mt) ρ S Q EX) :
    wpI G.T C hx src ρ S (fun w S1 => compN S1.length w.stand (turnOf G C hx i me mt ρ) (fun S2 => Q (.ref S1.length) S2) w.items [] (S1 ++ [.lst []])) EX := by
  cases mt with
  | none => exact h
  | some t => exact h
theorem comp_read (hC : MonoC C) {elt iter : Expr} {i : Nat} {pt : Pos} {ifs : List Expr} {scope : Scope} {src : Src} {me : Tm} {mt : Option Tm} {W : WX} (x : Sx G X.K W) {σ : L2.St} {H : Hp} {Q : VK} {μ : Mu} {S : Sto} {ρ : Env} (wd : Wd x σ H μ S ρ) (q : wpE G.T C hx (compTm me i src mt) ρ S (LQ G.N X.K μ H Q) x.EX) :
    tLc (fun σ H R => ∃ μ S ρ, Wd x σ H μ S ρ ∧ wpI G.T C hx src ρ S (fun w S1 => ∀ μ1 H1, Ext μ H μ1 H1 → Rel G.N X.K μ1 S1 H1 → ∀ J, SrcOk G X.K μ1 H1 J w.items w.stand → R J H1) x.EX) (gName i) (tst G X.K C hx mt) (LE0 G X.K (mE G C hx me)) [i] σ H Q := by
  refine ⟨μ, S, ρ, wd, monoI hC (comp_wp q) fun w S1 q1 μ1 H1 e1 R1 J hJ D hD => ?_⟩
  exact comp_core hC (wd.next e1 R1) e1 hJ q1 D hD
theorem ce_comp (hC : MonoC C) {elt iter : Expr} {i : Nat} {pt : Pos} {ifs : List Expr} {scope : Scope} {src : Src} {me : Tm} {mt : Option Tm} (r : CompR G C hx X elt y i pt iter ifs scope src me mt) : CE G C hx X (.ListComp elt [⟨.Name y pt, iter, ifs, 0⟩] scope pos) (compTm me i src mt) := fun W tk x =>
  (pe_lc (own := [(y, i)]) (te := LE0 G X.K (mE G C hx me)) r.calm r.nd (r.src W tk x) r.ok r.hg r.ht (fun s H D cl fp => pe0 (r.he s H D cl fp)) r.hs).imp fun σ H Q ⟨μ, S, ρ, wd, q⟩ => comp_read hC (elt := elt) (iter := iter) (pt := pt) (ifs := ifs) (scope := scope) x wd q
/-- z = [..] -/
theorem cs_asgLc (hC : MonoC C) {elt iter : Expr} {i j : Nat} {z : Str} {pt pz spos : Pos} {ifs : List Expr} {scope : Scope} {src : Src} {me : Tm} {mt : Option Tm} (r : CompR G C hx X elt y i pt iter ifs scope src me mt) (hz : X.N[j]? = some z) (hzl : X.env.scope.names.lookup z = some .local)
    (hsw : swapsWith (.ListComp elt [⟨.Name y pt, iter, ifs, 0⟩] scope pos) (some (.Name z pz)) spos.line X.env = pure true) : CS G C hx X (.Assign [.Name z pz] (.ListComp elt [⟨.Name y pt, iter, ifs, 0⟩] scope pos) spos) (.asg j (compTm me i src mt)) := fun W tk x ha => by
  refine (ps_setLc (own := [(y, i)]) (te := LE0 G X.K (mE G C hx me)) r.calm r.nd hz hzl hsw (r.src W tk x) r.ok r.hg r.ht (fun s H D cl fp => pe0 (r.he s H D cl fp)) r.hs).imp fun σ H D ⟨μ, S, ρ, k, wd, q, kd⟩ => ?_
  refine comp_read hC (elt := elt) (iter := iter) (pt := pt) (ifs := ifs) (scope := scope) x wd (monoE hC _ _ _ _ _ _ _ (fun d S1 q1 => ?_) (fun _ _ z => z) q)
  exact fun μ1 H1 v e1 R1 r1 => kd.nx μ1 H1 S1 _ _ e1 ((wd.next e1 R1).set ha r1) q1
end
end Mp
namespace Mp
open PySem PySem.Spec PyProof.Rows L2

/-- a def of the module that keeps its clean promise, and how it is called by its name -/
structure Cal (P : Program) (w : World) (K : PySem.W.Frag) (mg : Str → Option Value) (base : Heap) (G : Gl) (n : Nat) (f : Nat) (x : Str) (a : Addr) (fd : FuncData) (ps : List Str) : Prop where
  ok : FnOk P w K mg base (L2.CX P w) (2 * n) a fd ps (spOf G K n f)
  mg : mg x = some (.ref a)
  kp : PySem.W.keepIn K (.ref a) = true
  bd : Binds K fd ps []
theorem LQ.later {N : Nms} {K : PySem.W.Frag} {μ μ1 : Mu} {H H1 : Hp} {Q : VK} {d : D} {S : Sto} (h : LQ N K μ H Q d S) (e : Ext μ H μ1 H1) : LQ N K μ1 H1 Q d S := fun μ' H' v e' => h μ' H' v (e.trans e')
section
variable {G : Gl} {X : Cx} {hx : Option Nat}
variable {e a b : Expr} {es : List Expr} {m ma mb : Tm} {ms : Tms} {pos p : Pos} {x y : Str} {n : Nat}
theorem ce_call {f : Nat} {ad : Addr} {fd : FuncData} {ps : List Str} (F : Cal X.prog X.w X.K X.mg X.base G n f x ad fd ps) (hr : Room (2 * n + 1) X.A) (hg : L2.Gl X x) (h : CEs G (wpCall G.T G.F n) hx X (e :: es) ms)
    (hdb : (x == ("__debug__" : Str)) = false := by decide) (he : starEach (e :: es) X.env = (false, eval e X.env) :: starEach es X.env := by rfl) (hpl : (backTo pos (starEach es X.env)).any (·.1) = false := by rfl) :
    CE G (wpCall G.T G.F n) hx X (.Call (.Name x p) (e :: es) [] pos) (.call f ms) := fun W tk z => by
  have hC := wpCall_mono G.T G.F n
  refine (pe_callS F.ok (hr.mono (Nat.le_succ _)) hg F.mg F.kp F.bd (fun σ => passAt tk σ) (h.pa hC tk z) hdb he hpl).imp fun σ H Q ⟨μ, S, ρ, wd, q⟩ => ?_
  refine bindA (monoEs hC ms) wd q fun vs H1 μ1 S1 ds e1 w1 r1 q1 => ?_
  refine ⟨μ1, S1, ds, w1.rel, r1, hC _ _ _ _ _ _ _ (fun d S' q2 => LQ.later q2 e1) (fun c S' q2 => ?_) q1⟩
  exact fun μ' H' Ca e' R' hk => z.ok c S' μ' H' σ Ca q2 (w1.ext.trans e') R' (z.mono e' w1.p) hk
/-! ### raise -/
/-- an exception class of the text's own -/
structure ExC (G : Gl) (X : Cx) (c : Nat) (x : Str) : Prop where
  ex : ∃ C bm B newId initId, G.N.kex c = some C ∧ X.mg x = some (.ref C) ∧ ExcBaseFacts B newId initId bm ∧ PySem.W.excIn X.K C bm newId = true ∧ PySem.W.keepIn X.K (.ref C) = true ∧ Raises X (.ref C)
theorem cs_rais {C : Calls} {c : Nat} {msg : Str} {j : Nat} {p2 : Pos} (hc : X.calm = true) (h : ExC G X c x) (hg : L2.Gl X x) (hdb : (x == ("__debug__" : Str)) = false := by decide) :
    CS G C hx X (.Raise (some (.Call (.Name x p) [.Constant (.str msg) j p2] [] pos)) none p2) (.rais c) := fun W tk z ha => by
  obtain ⟨Ca, bm, B, newId, initId, h1, h2, h3, h4, h5, h6⟩ := h.ex
  refine (ps_raise hc tk (pmk_own h3 h4 h2 h5 h6 hg hdb)).imp fun σ H D ⟨μ, S, ρ, k, wd, q, kd⟩ => ?_
  exact z.ok c S μ H σ Ca q wd.ext wd.rel wd.p h1
end

/-! ### a def -/
section
variable {P : Program} {w : World} {K : PySem.W.Frag} {mg : Str → Option Value} {base : Heap} {G : Gl}
theorem fn_zero {ps : List Str} {a : Addr} {fd : FuncData} {f : Nat} : FnOk P w K mg base (L2.CX P w) 0 a fd ps (spOf G K 0 f) :=
  ⟨fun vs H Q E ⟨_, _, _, _, _, h⟩ => h.elim, fun A outer s H args us vs Q E _ _ _ _ ⟨_, _, _, _, _, h⟩ => h.elim⟩
theorem start_re {μ : Mu} {H : Hp} {N : List Str} {vs : List V} {ds : List D} (h : RDs K μ H vs ds) : RE K μ H (ds.map some ++ List.replicate (N.length - ds.length) none) (L2.start N vs) := by
  unfold L2.start
  rw [h.length]
  refine ⟨by simp [h.length], fun i d e => ?_⟩
  by_cases hi : i < ds.length
  · rw [List.getElem?_append_left (by simpa using hi), List.getElem?_map] at e
    rw [List.getElem?_append_left (by rw [List.length_map, h.length]; exact hi), List.getElem?_map]
    cases ed : ds[i]? with
    | none => rw [ed] at e; cases e
    | some d' =>
      rw [ed] at e
      cases e
      obtain ⟨v, hv, r⟩ := h.get ed
      exact ⟨v, by rw [hv]; rfl, r⟩
  · rw [List.getElem?_append_right (by simpa using Nat.le_of_not_lt hi)] at e
    rw [List.getElem?_replicate] at e
    split at e <;> cases e
/-- THE RULE for a def: its body as a clean body -/
theorem def_ok {x qual : Str} {st : Stmt} {a : Addr} {fd : FuncData} {N ps : List Str} {f n : Nat} {body : Cms} (F : L2.Fun K x qual st a fd) (S : FnScope N ps (defScope st)) (hF : G.F f = some ⟨ps.length, N.length, body⟩)
    (h : ∀ (cdv : Value) (A : Around) (outer : List PySem.Env) (s : Shared) (H : Hp) (E : XK), Room (2 * n + 1) (A.deeper (envOfC qual (defScope st) s.heap.objs.size a cdv)) →
      CSs G (wpCall G.T G.F n) none (cxOf (L2.CX P w) P w K mg base N qual (defScope st) a cdv A outer s H E) (defBody st) body) : FnOk P w K mg base (L2.CX P w) (2 * (n + 1)) a fd ps (spOf G K (n + 1) f) := by
  have len : ∀ vs H Q E, spOf G K (n + 1) f vs H Q E → vs.length = ps.length := fun vs H Q E ⟨μ, S', ds, R, r, q⟩ => by
    simp only [wpCall, hF] at q
    rw [r.length, q.1]
  refine F.okX (k := 2 * n + 1) S len fun cdv A outer s H vs Q E hr hsp => ?_
  obtain ⟨μ, S', ds, R, r, q⟩ := hsp
  simp only [wpCall, hF] at q
  have tk : Takes (cxOf (L2.CX P w) P w K mg base N qual (defScope st) a cdv A outer s H E) (fun cls d _ H => E cls d H) := takes_of rfl rfl rfl rfl
  refine ⟨_, h cdv A outer s H E hr (fun cls d _ H => E cls d H) tk ⟨μ, H, LX G.N K μ H E, fun _ _ _ => True, fun _ _ => trivial, fun c S2 μ' H' σ' C hE e R' _ hk => hE μ' H' C e R' hk⟩ fun _ _ _ => trivial, ?_⟩
  refine ⟨μ, S', _, _, ⟨Ext.refl _ _, R, start_re r, trivial⟩, q.1 ▸ q.2, ?_⟩
  exact ⟨fun μ' H' S2 σ' ρ' e w n => n μ' H' .non e w.rel .non, fun μ' H' S2 v d e R' rd n => n μ' H' v e R' rd, fun _ _ _ _ _ _ _ n => n.elim, fun _ _ _ _ _ _ _ n => n.elim⟩
/-- the facts that every derivation asks of its surroundings -/
theorem hu_of' {A : Around} {k : Nat} (hr : Room k A) : A.units + 65 < cLine := by have := hr.un; omega
theorem hu64 {A : Around} {k : Nat} (hr : Room k A) : A.units + 64 < cLine := by have := hr.un; omega
/-- the law: what its clean body does is what is asked -/
theorem law_sp {n f : Nat} (hl : ∀ ns : List Int, ns.length ≤ 63 → wpCall G.T G.F n f [.lis (ns.map .int)] [] (fun d _ => d = .bl true) fun _ _ => False) (H : Hp) (a : Addr) (ns : List Int) (h1 : ns.length ≤ 63) (hO : Only H) (hS : SqL K H a (ns.map V.int)) :
    spOf G K n f [.ref a] H (fun v _ => v = .bl true) fun _ _ _ => False := by
  have hc : SqC K H a (ns.map V.int) := by
    rcases hS with (h | h) | h
    · rcases hO a with z | ⟨o, xs, z⟩
      · rw [h] at z; cases z
      · rw [h] at z; cases z
    · exact .inl h
    · exact .inr h
  refine ⟨fun _ => none, [], [.lis (ns.map .int)], ⟨(fun r ob h => by simp at h), (fun r q a h => nomatch h), (fun r a h => nomatch h)⟩, .cons (.lis hc (RDs.ints ns)) .nil, ?_⟩
  refine wpCall_mono G.T G.F n _ _ _ _ _ _ _ (fun d S' e => ?_) (fun _ _ z => z.elim) (hl ns h1)
  subst e
  exact fun μ' H' v _ _ r => r.bl_inv
theorem cx_none {H : Hp} {s : Shared} {e : Value} {s' : Shared} (h : L2.CX P w [] H s (fun _ _ _ => False) e s') : False := by
  obtain ⟨_, _, _, _, _, _, _, _, _, _, _, _, z⟩ := h
  exact z.elim
end
end Mp
/-! Operators that join several kinds: ==, !=, in, not in. -/
namespace Mp
open PySem PySem.Spec PyProof.Rows L2
section
variable {X : Cx}
theorem emp_map {pins : List (Addr × Obj)} {s : Shared} {σ : L2.St} {H : Hp} {p : Addr} {kx : HO} (I : Inv X pins σ H s) (h : H p = some kx) (e : kx = .dT [] ∨ kx = .dK []) : (p == sysModules) = false ∧ s.heap.DictOf (mixKind X.prog X.w) p [] := by
  rcases e with rfl | rfl
  · obtain ⟨_, hs, xs, r, o, es, ep, h1, h2, h3, h4, _⟩ := (show ObjOk X.prog X.w H s.heap p (.dT []) from I.hok p _ h)
    cases r
    have h5 : es.toList = [] := h4
    have h6 : es = #[] := by cases es; simpa using h5
    subst h6
    exact ⟨hs, o, #[], ep, h1, h2, h3, fun e he => by simp at he, by simpa using Pairs.nil, by simp⟩
  · obtain ⟨_, hs, vs, r, dd⟩ := dk_of I.hok h
    cases r
    exact ⟨hs, dd⟩
theorem op_eqE (hu : X.A.units + 64 < cLine) : OpR X (compareOp .Eq) (rEqE true) := by
  intro pins s σ H x y v u Q I rx ry h
  obtain ⟨p, q, kx, ky, rfl, rfl, h1, h2, e1, e2, hq⟩ := h
  obtain rfl : v = Value.ref p := rx
  obtain rfl : u = Value.ref q := ry
  obtain ⟨s1, d1⟩ := emp_map I h1 e1
  obtain ⟨s2, d2⟩ := emp_map I h2 e2
  exact PySem.W.keq_eq (r := true) s1 s2 d1 d2 (by omega) (fun _ => .nil) ⟨.bl _, H, I, rfl, hq⟩
theorem op_neE (hu : X.A.units + 64 < cLine) : OpR X (compareOp .NotEq) (rEqE false) := by
  intro pins s σ H x y v u Q I rx ry h
  obtain ⟨p, q, kx, ky, rfl, rfl, h1, h2, e1, e2, hq⟩ := h
  obtain rfl : v = Value.ref p := rx
  obtain rfl : u = Value.ref q := ry
  obtain ⟨s1, d1⟩ := emp_map I h1 e1
  obtain ⟨s2, d2⟩ := emp_map I h2 e2
  exact PySem.W.keq_ne (r := true) s1 s2 d1 d2 (by omega) (fun _ => .nil) ⟨.bl _, H, I, rfl, hq⟩
theorem op_eqAll (hu : X.A.units + 65 < cLine) : OpR X (compareOp .Eq) (fun x y H Q => rEqD X.K x y H Q ∨ rEqE true x y H Q) := (op_eqD (by omega)).or (op_eqE (by omega))
theorem op_neAll (hu : X.A.units + 65 < cLine) : OpR X (compareOp .NotEq) (fun x y H Q => rNeD X.K x y H Q ∨ rEqE false x y H Q) := (op_neD (by omega)).or (op_neE (by omega))
theorem op_inDt (hu : X.A.units + 65 < cLine) : OpR X (compareOp .In) (rInDt false) := by
  intro pins s σ H x y v u Q I rx ry h
  obtain ⟨a, o, rfl, g, q⟩ := h
  obtain rfl : u = Value.ref a := ry
  exact d_in (A := X.A) (by omega) I g rx fun s' I' => ⟨.bl _, H, I', rfl, q⟩
theorem op_ninDt (hu : X.A.units + 65 < cLine) : OpR X (compareOp .NotIn) (rInDt true) := by
  intro pins s σ H x y v u Q I rx ry h
  obtain ⟨a, o, rfl, g, q⟩ := h
  obtain rfl : u = Value.ref a := ry
  exact d_notIn (A := X.A) (by omega) I g rx fun s' I' => ⟨.bl _, H, I', rfl, q⟩
theorem op_inAll (hu : X.A.units + 65 < cLine) : OpR X (compareOp .In) (rInn X.K false) := OpR.or (r := rInS false) op_in_sign (OpR.or (r := rInQ X.K false) (op_inD hu) (op_inDt hu))
theorem op_ninAll (hu : X.A.units + 65 < cLine) : OpR X (compareOp .NotIn) (rInn X.K true) := OpR.or (r := rInS true) op_notIn_sign (OpR.or (r := rInQ X.K true) (op_notInD hu) (op_ninDt hu))
end
section
variable {G : Gl} {X : Cx} {C : Calls} {hx : Option Nat}
theorem ct_chain (hC : MonoC C) {o1 o2 : Op} {op op' : CmpOp} {r r' : R2} {a b c : Expr} {ma mb mc : Tm} {pos : Pos} (ho : OpR X (compareOp op) r) (ho' : OpR X (compareOp op') r') (hv : VOk2 G X.K o1 r) (hv' : VOk2 G X.K o2 r')
    (ha : CE G C hx X a ma) (hb : CE G C hx X b mb) (hc : CE G C hx X c mc) (hm : lastMarks [op, op'] [b, c] = false) : CT G C hx X (.Compare a [op, op'] [b, c] pos) (.chain o1 o2 ma mb mc) := fun W tk x => by
  refine (pt_chain ho ho' (ha W tk x) (hb W tk x) (hc W tk x) hm).imp fun σ H Q ⟨μ, S, ρ, wd, q⟩ => ?_
  refine bindW (monoE hC ma) wd q fun v H1 μ1 S1 d e1 w1 r1 q1 => ?_
  refine bindW (monoE hC mb) w1 q1 fun u H2 μ2 S2 d' e2 w2 r2 q2 => ?_
  refine hv μ2 H2 μ2 S2 H2 [v, u] [d, d'] _ (Ext.refl _ _) w2.rel (.cons (r1.ext e2) (.cons r2 .nil)) (opD_mono q2 fun z S3 q3 => ?_) v u rfl
  cases z with
  | bl k =>
    intro μ3 H3 v3 e3 rel3 rd
    refine ⟨k, rd.bl_inv, ?_⟩
    cases k with
    | false => rw [if_neg Bool.false_ne_true]; exact ⟨false, rfl, q3 μ3 H3 ((e1.trans e2).trans e3) rel3⟩
    | true =>
      rw [if_pos rfl]
      refine bindW (monoE hC mc) (w2.next e3 rel3) q3 fun w H4 μ4 S4 d4 e4 w4 r4 q4 => ?_
      refine hv' μ4 H4 μ4 S4 H4 [u, w] [d', d4] _ (Ext.refl _ _) w4.rel (.cons ((r2.ext e3).ext e4) (.cons r4 .nil)) (opD_mono q4 fun z S5 q5 => ?_) u w rfl
      cases z with
      | bl k => exact fun μ5 H5 v5 e5 rel5 rd5 => ⟨k, rd5.bl_inv, q5 μ5 H5 ((((e1.trans e2).trans e3).trans e4).trans e5) rel5⟩
      | _ => exact q5.elim
  | _ => exact q3.elim
theorem tyl_of {o : Op} (h : ∀ S x, tyOk o S x = (match x with
    | .ref r => (lstAt S r).isSome
    | _ => false)) : ∀ S d, tyOk o S d = true → ∃ r, d = .ref r ∧ (lstAt S r).isSome = true := fun S d t => by
  rw [h] at t
  cases d with
  | ref r => exact ⟨r, rfl, t⟩
  | _ => cases t
theorem tys_of {o : Op} (h : ∀ S x, tyOk o S x = (match x with
    | .str _ => true
    | _ => false)) : ∀ S d, tyOk o S d = true → ∃ s, d = .str s := fun S d t => by
  rw [h] at t
  cases d with
  | str s => exact ⟨s, rfl⟩
  | _ => cases t
theorem ty_append {K : PySem.W.Frag} : TYM G K .append "list" := ty_lst (tyl_of fun _ _ => rfl)
theorem ty_clear {K : PySem.W.Frag} : TYM G K .clear "list" := ty_lst (tyl_of fun _ _ => rfl)
theorem ty_insert {K : PySem.W.Frag} : TYM G K .insert "list" := ty_lst (tyl_of fun _ _ => rfl)
theorem ty_remove {K : PySem.W.Frag} : TYM G K .remove "list" := ty_lst (tyl_of fun _ _ => rfl)
theorem ty_join {K : PySem.W.Frag} : TYM G K .join "str" := ty_str (tys_of fun _ _ => rfl)
theorem nostar {e : Expr} (h : (match e with
    | .Starred _ _ => true
    | _ => false) = false) : ∀ (y : Expr) (p : Pos), e ≠ .Starred y p := fun y p z => by subst z; exact nomatch h
end
end Mp
/-! < of numbers and of tuples of texts; text * int. -/
namespace Mp
open PySem PySem.Spec PyProof.Rows L2 PySem.W
section
variable {X : Cx} {G : Mp.Gl} {K : PySem.W.Frag}
def sD (s : List Nat) : PyData := .str ⟨s.toArray⟩
theorem alike_strs : ∀ p q : List (List Nat), alikeAll (p.map sD) (q.map sD) = true
  | [], q => by simp [alikeAll]
  | a :: p, [] => by simp [alikeAll]
  | a :: p, b :: q => by
    have := alike_strs p q
    simp only [List.map_cons, alikeAll, sD, alike, Bool.true_and]
    exact this
theorem eqv_str (a b : List Nat) : PyData.eqv (sD a) (sD b) = decide (a = b) := by
  unfold sD
  rw [PyData.eqv]
  by_cases h : a = b
  · subst h; simp
  · have : (⟨a.toArray⟩ : Str) ≠ ⟨b.toArray⟩ := fun z => h (by have := congrArg (fun s => s.cps.toList) z; simpa using this)
    simp [h, this]
theorem lex_strs : ∀ p q : List (List Nat), PyProof.Rows.lexLt itemOrd (keyToksAll (p.map sD)) (keyToksAll (q.map sD)) = lexL p q
  | [], [] => by decide +kernel
  | [], b :: q => by
    rw [List.map_nil, List.map_cons, toks_all_cons, show keyToksAll [] = [Sum.inl 0] by rw [keyToksAll], lexL]
    exact (lex_diff (O := itemOrd) (by simp)).trans (by decide)
  | a :: p, [] => by
    rw [List.map_nil, List.map_cons, toks_all_cons, show keyToksAll [] = [Sum.inl 0] by rw [keyToksAll], lexL]
    exact (lex_diff (O := itemOrd) (by simp)).trans (by decide)
  | a :: p, b :: q => by
    have hal : alike (sD a) (sD b) = true := by simp [sD, alike]
    rw [List.map_cons, List.map_cons, lexL]
    by_cases h : a = b
    · rw [dataLt_all_yes hal (by rw [eqv_str]; simp [h]), if_pos h, lex_strs p q]
    · rw [dataLt_all_no hal (by rw [eqv_str]; simp [h]), if_neg h]
      unfold sD
      rw [dataLt_str]
def rLtX (K : PySem.W.Frag) : R2 := fun x y H Q => ∃ p q : List (List Nat), Dp K H x (.tuple (p.map sD)) ∧ Dp K H y (.tuple (q.map sD)) ∧ Q (.bl (lexL p q)) H
theorem depth_strs : ∀ p : List (List Nat), PyData.depthAll (p.map sD) = 0
  | [] => by simp [PyData.depthAll]
  | a :: p => by rw [List.map_cons, PyData.depthAll, depth_strs p]; simp [sD, PyData.depth]
theorem op_ltX (hu : X.A.units + 65 < cLine) : OpR X (compareOp .Lt) (rLtX X.K) := by
  intro pins s σ H x y v u Q I rx ry h
  obtain ⟨p, q, hd, he, hq⟩ := h
  obtain ⟨as, r1⟩ := Dp.reads I _ x v hd rx
  obtain ⟨bs, r2⟩ := Dp.reads I _ y u he ry
  have := rcLt_alike (.tuple (p.map sD)) (.tuple (q.map sD)) X.A s v u as bs r1 r2 (by rw [alike]; exact alike_strs p q) (by simp) (by
    rw [PyData.depth, PyData.depth, depth_strs, depth_strs]; omega)
  refine this X.prog X.w X.xe _ ?_
  rw [dataLt_tuple, lex_strs]
  exact ⟨.bl _, H, I, rfl, hq⟩
def rLtAll (K : PySem.W.Frag) : R2 := fun x y H Q => rI0 (fun i j => .bl (decide (i < j))) x y H Q ∨ rLtX K x y H Q
theorem op_ltAll (hu : X.A.units + 65 < cLine) : OpR X (compareOp .Lt) (rLtAll X.K) := op_lt.or (op_ltX hu)
theorem strs_mapM : ∀ {ds : List D} {p : List (List Nat)}, ds.mapM (fun d => match d with
    | .str s => some s
    | _ => none) = some p → ds = p.map .str
  | [], p, h => by rw [mapM_nil h]; rfl
  | d :: ds, p, h => by
    obtain ⟨b, bs, h1, h2, rfl⟩ := mapM_cons h
    rw [strs_mapM h2]
    cases d with
    | str s => cases h1; rfl
    | _ => cases h1
theorem strsOf_eq {d : D} {p : List (List Nat)} (h : strsOf d = some p) : d = .tup (p.map .str) := by
  cases d with
  | tup ds => rw [strs_mapM (show ds.mapM _ = some p from h)]
  | _ => cases h
theorem dp_strs {μ : Mu} {H : Hp} : ∀ {p : List (List Nat)} {vs : List V}, RDs K μ H vs (p.map .str) → DpAll K H vs (p.map sD)
  | [], vs, h => by cases h; exact .nil
  | a :: p, vs, h => by
    cases h with
    | cons h1 h2 => rw [h1.str_inv]; exact .cons (.str _) (dp_strs h2)
theorem dp_tup {μ : Mu} {H : Hp} {p : List (List Nat)} {v : V} (h : RD K μ H v (.tup (p.map .str))) : Dp K H v (.tuple (p.map sD)) := by
  obtain ⟨a, vs, rfl, g1, g2⟩ := h.tup_inv
  exact .tup (Mp.SqT.ofT g1) (dp_strs g2)
theorem vf_ltX : VOF2 G K oLtT (rLtX K) := fun μ0 H0 μ S H vs ds Q d S' e R rd h q x y hv => by
  subst hv
  obtain ⟨a, b, rfl, h1, h2⟩ := rd.inv2
  unfold oLtT at h
  simp only at h
  split at h
  · rename_i p t e1 e2
    cases h
    rw [strsOf_eq e1] at h1; rw [strsOf_eq e2] at h2
    exact ⟨p, t, dp_tup h1, dp_tup h2, q.give e R (.bl _)⟩
  · cases h
theorem vk_lt : VOk2 G K .lt (rLtAll K) := VOF.ok (f := orF (oCmp fun i j => decide (i < j)) oLtT) (vf_ltI.or vf_ltX) rfl
/-! ### text * int -/
theorem fold_rep (a : List Nat) : ∀ (k : Nat) (acc : Array Nat), ((List.replicate k a.toArray).foldl (· ++ ·) acc) = acc ++ ((List.replicate k a).flatten).toArray
  | 0, acc => by simp
  | k + 1, acc => by
    rw [List.replicate_succ, List.foldl_cons, fold_rep a k, List.replicate_succ, List.flatten_cons]
    simp [Array.append_assoc]
theorem op_mulS : OpR X (binaryOp .Mult) rMulS := by
  intro pins s σ H x y v u Q I rx ry h
  obtain ⟨a, k, rfl, rfl, hk, hl, hq⟩ := h
  obtain ⟨t, rfl⟩ := rx
  obtain ⟨t', rfl⟩ := ry
  have sl : (sizeLine : Nat) ≤ 16777216 := by decide
  have fin : ∀ z s', RelV (.str (SX.S (List.replicate k.toNat a.cps.toList).flatten)) z → Inv X pins σ H s' → EP X pins σ Q z s' := fun z s' r i => ⟨_, H, i, r, hq⟩
  refine PySem.P.mul_str (by
    have h1 : ¬ k < -(2 ^ 63 : Int) := by omega
    have h2 : ¬ k ≥ (2 ^ 63 : Int) := by omega
    rw [decide_eq_false h1, decide_eq_false h2]; rfl) (fun h1 _ => ?_) (fun _ _ => ?_) ?_
  · have : (a.length : Int) ≤ (2 ^ 63 - 1) / k := by
      rw [Int.le_ediv_iff_mul_le (by omega)]
      have e : ((a.length * k.toNat : Nat) : Int) = (a.length : Int) * k := by
        rw [Int.natCast_mul, Int.toNat_of_nonneg (by omega)]
      rw [← e]
      omega
    omega
  · unfold PySem.Builtin.Str.tooLong
    exact decide_eq_false (by omega)
  · split
    · rename_i h1
      have : k.toNat = 0 := by omega
      rw [this] at fin
      exact ⟨by decide, fin _ _ ⟨_, rfl⟩ (I.tok _)⟩
    · rename_i h1
      split
      · rename_i h2
        rw [Bool.or_eq_true] at h2
        have e : SX.S (List.replicate k.toNat a.cps.toList).flatten = a := by
          rcases h2 with h2 | h2
          · have : k = 1 := by simpa using h2
            subst this
            simp [SX.S]
          · have : a.cps.toList = [] := by
              have : a.cps.size = 0 := by simpa [Str.length] using h2
              simpa using this
            rw [this]
            have : (List.replicate k.toNat ([] : List Nat)).flatten = [] := by simp
            rw [this]
            have h3 : a.cps = #[] := by simpa using ‹a.cps.toList = []›
            cases a; simp_all [SX.S]
        rw [e] at fin
        exact fin _ _ ⟨_, rfl⟩ I
      · rename_i h2
        have e : (⟨(List.replicate k.toNat a.cps).foldl (· ++ ·) #[]⟩ : Str) = SX.S (List.replicate k.toNat a.cps.toList).flatten := by
          have := fold_rep a.cps.toList k.toNat #[]
          simp only [Array.toArray_toList] at this
          rw [this]; simp [SX.S]
        refine ⟨?_, ?_⟩
        · rw [e]
          have el : (SX.S (List.replicate k.toNat a.cps.toList).flatten).length = k.toNat * a.length := by
            simp [SX.S, Str.length]
          rw [el, Nat.mul_comm]
          exact hl
        · rw [e]; exact fin _ _ ⟨_, rfl⟩ (I.tok _)
theorem op_mulAll : OpR X (binaryOp .Mult) rMulAll := op_mul.or op_mulS
variable {C : Calls} {hx : Option Nat} {a : Expr} {ma : Tm} {pos : Pos}
theorem ct_isN (hC : MonoC C) {j pos'} (ha : Mp.CE G C hx X a ma) : CT G C hx X (.Compare a [.Is] [.Constant .none j pos'] pos) (.op .isN (.cons ma .nil)) := fun W tk y => by
  refine (pt_cmp (pc_isN (ha W tk y)) rfl).imp fun σ H Q ⟨μ, S, ρ, wd, q⟩ => ?_
  refine bindW (monoE hC ma) wd q fun v H1 μ1 S1 d e1 w1 r1 q1 => ?_
  have q2 : opD G.T .isN [d] S1 (fun d S' => match d with
    | .bl b => ∀ μ' H', Ext μ H μ' H' → Rel G.N X.K μ' S' H' → Q b H'
    | _ => False) := q1
  obtain ⟨z, S3, hz, q3⟩ := opD_some q2
  cases hz
  exact ⟨_, by rw [isN_ok r1], q3 μ1 H1 e1 w1.rel⟩
theorem ct_notN (hC : MonoC C) {j pos'} (ha : Mp.CE G C hx X a ma) : CT G C hx X (.Compare a [.IsNot] [.Constant .none j pos'] pos) (.op .notN (.cons ma .nil)) := fun W tk y => by
  refine (pt_cmp (pc_notN (ha W tk y)) rfl).imp fun σ H Q ⟨μ, S, ρ, wd, q⟩ => ?_
  refine bindW (monoE hC ma) wd q fun v H1 μ1 S1 d e1 w1 r1 q1 => ?_
  have q2 : opD G.T .notN [d] S1 (fun d S' => match d with
    | .bl b => ∀ μ' H', Ext μ H μ' H' → Rel G.N X.K μ' S' H' → Q b H'
    | _ => False) := q1
  obtain ⟨z, S3, hz, q3⟩ := opD_some q2
  cases hz
  exact ⟨_, by rw [isN_ok r1], q3 μ1 H1 e1 w1.rel⟩
end
end Mp
/-! sorted(d) of a dict whose keys are pairs of texts. -/
namespace Mp
open PySem PySem.Spec PyProof.Rows L2 PySem.W
def vS (t : List (List Nat)) : List V := t.map fun s => V.str ⟨s.toArray⟩
def eT (t : List (List Nat)) : PyData := .tuple (t.map sD)
def TupAt (H : Hp) (b : Addr) (t : List (List Nat)) : Prop := H b = some (.tup (vS t))
theorem reads_strs {h : Heap} : ∀ (t : List (List Nat)) (vs : List Value) (as : List Addr), ReadsAll h vs (t.map sD) as → as = []
  | [], vs, as, r => by cases r; rfl
  | s :: t, vs, as, r => by
    cases r with
    | cons r1 r2 => cases r1; rw [reads_strs t _ _ r2]; rfl
theorem reads_tup {h : Heap} {v : Value} {t : List (List Nat)} {as : List Addr} (r : Reads h v (eT t) as) : as = [] := by
  cases r with
  | tuple _ _ _ r => exact reads_strs t _ _ r
theorem dpS {K : PySem.W.Frag} {H : Hp} : ∀ t : List (List Nat), DpAll K H (vS t) (t.map sD)
  | [] => .nil
  | s :: t => .cons (.str _) (dpS t)
theorem le_eq (ts : List (List (List Nat))) : ts.mergeSort (dataLe false eT) = ts.mergeSort leK := by
  have : dataLe false eT = leK := by
    funext a b
    rw [dataLe_eq]
    show (!dataLt (eT b) (eT a)) = leK a b
    unfold leK eT
    rw [dataLt_tuple, lex_strs]
  rw [this]
def rSortT : List V → Hp → VK → Prop := fun xs H Q => ∃ (a : Addr) (kvs : List (List Key × V)) (ts : List (List (List Nat))), xs = [.ref a] ∧ Rd H a (.dT kvs) ∧ kvs.map (fun p => p.1.map kV) = ts.map vS ∧ (∀ t ∈ ts, t ≠ []) ∧
    ∀ (p : Addr) (bs : List Addr), H p = none → EachIs (TupAt H) bs (ts.mergeSort leK) → Q (.ref p) (upd H p (.lst (bs.map V.ref)))
section
variable {X : Cx}
theorem keys_each {H : Hp} : ∀ {kvs : List (List Key × V)} {xs : List (List Key × Addr × Value)} {ts : List (List (List Nat))}, Paired (fun (p : List Key × V) (q : List Key × Addr × Value) => p.1 = q.1 ∧ H q.2.1 = some (.tup (p.1.map kV)) ∧ RelV p.2 q.2.2) kvs xs → kvs.map (fun p => p.1.map kV) = ts.map vS →
    EachIs (fun (v : Value) t => ∃ b, v = .ref b ∧ TupAt H b t) (xs.map fun x => Value.ref x.2.1) ts
  | [], [], ts, _, h => by
    cases ts with
    | nil => exact .nil
    | cons t ts => simp at h
  | k :: kvs, x :: xs, ts, p, h => by
    cases ts with
    | nil => simp at h
    | cons t ts =>
      cases p with
      | cons p1 p2 =>
        simp only [List.map_cons, List.cons.injEq] at h
        refine .cons ⟨x.2.1, rfl, ?_⟩ (keys_each p2 h.2)
        unfold TupAt
        rw [p1.2.1, h.1]
  | [], _ :: _, ts, p, h => nomatch p
  | _ :: _, [], ts, p, h => nomatch p
theorem each_refs {H : Hp} : ∀ {us : List Value} {ts : List (List (List Nat))}, EachIs (fun (v : Value) t => ∃ b, v = .ref b ∧ TupAt H b t) us ts → ∃ bs : List Addr, us = bs.map Value.ref ∧ EachIs (TupAt H) bs ts
  | [], [], _ => ⟨[], rfl, .nil⟩
  | u :: us, t :: ts, h => by
    cases h with
    | cons h1 h2 =>
      obtain ⟨b, rfl, hb⟩ := h1
      obtain ⟨bs, rfl, hbs⟩ := each_refs h2
      exact ⟨b :: bs, rfl, .cons hb hbs⟩
  | [], _ :: _, h => nomatch h
  | _ :: _, [], h => nomatch h
theorem call_sortedT (hcalm : X.calm = true) (hu : X.A.units + 65 < cLine) : CallR X (.builtin "sorted") rSortT := by
  intro pins s σ H xs us Q I r q
  obtain ⟨a, kvs, ts, ex, hd, hks, hne, q⟩ := q
  subst ex
  obtain ⟨u, eu, rx⟩ := r.one
  subst eu
  cases rx
  obtain ⟨z, hs, ks, pr, o, es, ep, ho, hx, hdt, he, hn⟩ := (show ObjOk X.prog X.w H s.heap a (.dT kvs) from hd.ok I.hok)
  have l1 : es.size = ks.length := size_of_entries he
  have l2 : kvs.length = ks.length := Paired.length pr
  have l3 : kvs.length = ts.length := by simpa using congrArg List.length hks
  refine Calls.call_function_entry PyProof.Rows.kind_sorted PyProof.Rows.plain_sorted PyProof.Rows.entry_sorted (PyProof.Rows.args_sorted1 _) ?_
  unfold Builtin.«sorted»
  refine wpAny_bind (m := checkCount "sorted" 1 1 _) (wpAny_pure ?_)
  refine wpAny_bind (PySem.W.kdu_collect (A := X.A.in1) (kdl_raw hs hx hdt) (I.ok.hd hcalm) ho (by omega) fun h' tk acc' hk it => ?_)
  have ea : acc'.toList = ks.map fun x => Value.ref x.2.1 := by
    have hl : acc'.toList.length = ks.length := by rw [Array.length_toList, it.1]; exact l1
    apply List.ext_getElem?
    intro j
    rw [List.getElem?_map]
    cases hj : acc'.toList[j]? with
    | none =>
      have h1 := List.getElem?_eq_none_iff.mp hj
      rw [List.getElem?_eq_none (by omega)]
      all_goals rfl
    | some v =>
      obtain ⟨en, hen, hv⟩ := it.2 j v (by rw [← Array.getElem?_toList]; exact hj)
      have qe := entry_at he j
      rw [hen] at qe
      cases hb : ks[j]? with
      | none =>
        rw [hb] at qe
        exact nomatch (show some en = none from qe)
      | some b =>
        rw [hb] at qe
        have e2 : en = entryOfKey (tupleKind (mixKind X.prog X.w)) b := Option.some.inj qe
        rw [hv, e2]
        all_goals rfl
  have eR : EachIs (fun (v : Value) t => ∃ b, v = .ref b ∧ TupAt H b t) acc'.toList ts := by rw [ea]; exact keys_each pr hks
  have hal : acc'.toList.length = ts.length := eR.length
  have I1 : Inv X pins σ H { s with heap := h', toks := tk } := I.kept hk
  refine wpAny_bind (wpAny_newList ?_ (by rw [hal]; omega))
  have hoL : (h'.push (seqObj "list" acc'.toList.toArray 0)).get? h'.objs.size = some (seqObj "list" acc'.toList.toArray 0) := Heap.get?_push_size _ rfl
  have I2 : Inv X pins σ H { s with heap := h'.push (seqObj "list" acc'.toList.toArray 0), toks := tk } := I1.kept (t' := tk) fun b o e => Heap.get?_push_of_some _ e
  show wpAny _ _ _ _ _ { s with heap := h'.push (seqObj "list" acc'.toList.toArray 0), toks := tk }
  refine wpAny_bind (wpAny_holding (list_sort_data (enc := eT) (s := { s with heap := h'.push (seqObj "list" acc'.toList.toArray 0), toks := tk }) hoL eR (eR.mono fun v t ⟨b, e1, e2⟩ => ?_) (AllAlike.of fun b b' => by unfold eT; rw [alike]; exact alike_strs _ _) ?_ (by omega) (fun t _ => ?_) fun out hlo eo => ?_))
  · refine .inl fun d hd => ?_
    obtain ⟨t, ht, rfl⟩ := List.mem_map.mp hd
    cases t with
    | nil => exact absurd rfl (hne _ ht)
    | cons x r => exact ⟨sD x, r.map sD, rfl⟩
  · have : (eT t).depth = 1 := by unfold eT; rw [PyData.depth, depth_strs]
    rw [this]
    show X.A.units + 1 + 1 + 1 < cLine
    omega
  · rw [le_eq] at eo
    obtain ⟨bs, eb, hbs⟩ := each_refs eo
    obtain ⟨e', he'⟩ := PyProof.Rows.sortedHeap_at (vs := acc'.toList) (out := List.toArray out) hoL
    have hlen : (bs.map V.ref).length ≤ sizeLine := by
      rw [List.length_map, hbs.length, List.length_mergeSort]; omega
    have rv : Vals (bs.map V.ref) out := by rw [eb]; exact vals_refs _
    refine wpAny_pure ⟨_, rfl, .ref h'.objs.size, upd H h'.objs.size (.lst (bs.map V.ref)), I1.laid (t' := tk) (fun b u e => ?_) (Nat.le_refl _)
      (show ObjOk X.prog X.w _ _ _ (.lst (bs.map V.ref)) from ⟨hlen, out, e', rv, he'⟩), rfl, q _ bs (I1.hok.fresh (Nat.le_refl _)) hbs⟩
    have hb : b < h'.objs.size := Heap.lt_size e
    rw [PyProof.Rows.sortedHeap_old (Nat.ne_of_lt hb) (by rw [size_push']; exact Nat.lt_succ_of_lt hb)]
    exact Heap.get?_push_of_some _ e
  · subst e1
    obtain ⟨as, hr⟩ := Dp.reads I2 (eT t) (.ref b) (.ref b) (.tup (Mp.SqT.ofT e2) (dpS t)) rfl
    refine ⟨as, hr, ?_⟩
    rw [reads_tup hr]; simp
end
/-! the clean side -/
section
variable {G : Mp.Gl} {K : PySem.W.Frag}
theorem vS_of {μ : Mu} {H : Hp} : ∀ {t : List (List Nat)} {vs : List V}, RDs K μ H vs (t.map .str) → vs = vS t
  | [], vs, h => by cases h; rfl
  | s :: t, vs, h => by
    cases h with
    | cons r1 r2 => rw [r1.str_inv, vS_of r2]; rfl
theorem cok_of {μ : Mu} {H : Hp} : ∀ {t : List (List Nat)} {vs : List V}, RDs K μ H vs (t.map .str) → ∀ s ∈ t, Cok s
  | [], vs, h, s, hs => by simp at hs
  | a :: t, vs, h, s, hs => by
    cases h with
    | cons r1 r2 =>
      rcases List.mem_cons.mp hs with rfl | hs
      · exact r1.cok
      · exact cok_of r2 s hs
theorem keys_strs {μ : Mu} {H : Hp} : ∀ {kv : List (List L2.Key × V)} {kvs : List (D × D)} {ts : List (List (List Nat))}, RKT K μ H kv kvs → (kvs.map (·.1)).mapM strsOf = some ts → kv.map (fun p => p.1.map kV) = ts.map vS ∧ ∀ t ∈ ts, ∀ s ∈ t, Cok s
  | [], [], ts, h, e => by cases mapM_nil e; exact ⟨rfl, by simp⟩
  | _ :: _, _ :: _, ts, h, e => by
    cases h with
    | cons h1 h2 h3 h4 =>
      rw [List.map_cons] at e
      obtain ⟨t, ts', e1, e2, rfl⟩ := mapM_cons e
      obtain ⟨i1, i2⟩ := keys_strs h4 e2
      have := strsOf_eq e1
      cases this
      refine ⟨?_, fun t' ht' => ?_⟩
      · rw [List.map_cons, List.map_cons, i1, vS_of h2]
      · rcases List.mem_cons.mp ht' with rfl | ht'
        · exact cok_of h2
        · exact i2 t' ht'
  | [], _ :: _, ts, h, e => nomatch h
  | _ :: _, [], ts, h, e => nomatch h
theorem rd_tup {μ : Mu} {H : Hp} {b : Addr} {t : List (List Nat)} (h : TupAt H b t) (hc : ∀ s ∈ t, Cok s) : RD K μ H (.ref b) (.tup (t.map .str)) := by
  refine .tup h ?_
  clear h
  induction t with
  | nil => exact .nil
  | cons s t ih => exact .cons (RD.str' (hc s (by simp))) (ih fun s hs => hc s (by simp [hs]))
theorem vk_sortedD : VOk G K .sortedD rSortT := VOF.ok (f := oSortedD) (fun μ0 H0 μ S H vs ds Q d S' e R rd h q => by
  unfold oSortedD at h
  split at h
  · rename_i r
    split at h
    · rename_i kvs es
      split at h
      · rename_i ts ht
        split at h
        · rename_i hall
          cases h
          obtain ⟨v, rfl, h1⟩ := rd.one
          obtain ⟨a, rfl, g1, kv, i1, i2⟩ := R.ref h1 es
          refine ⟨a, kv, ts, rfl, .inl i1, (keys_strs i2 ht).1, fun t htt z => ?_, fun p bs hn hbs => ?_⟩
          · have := List.all_eq_true.mp hall t htt
            rw [z] at this; simp at this
          · refine new_lst R e hn ?_ q
            have hcok := (keys_strs i2 ht).2
            have hc2 : ∀ t ∈ ts.mergeSort leK, ∀ s ∈ t, Cok s := fun t ht => hcok t ((List.mergeSort_perm ts leK).mem_iff.mp ht)
            clear q
            generalize ts.mergeSort leK = us at hbs hc2
            induction hbs with
            | nil => exact .nil
            | cons b1 b2 ih => exact .cons (rd_tup b1 (hc2 _ (by simp))) (ih fun t ht => hc2 t (by simp [ht]))
        · cases h
      · cases h
    · cases h
  · cases h) rfl
end
end Mp
/-! for k, v in d.items() of a dict whose keys are tuples; for k in d. -/
namespace Mp
open PySem PySem.Spec PyProof.Rows L2
section
variable {P : Program} {w : World} {K : PySem.W.Frag} {tg : Expr} {d : Addr} {o : Obj} {es : Array DictEntry} {ep : Nat}
def ItiT (d : Addr) (o : Obj) (kvs : List (List Key × V)) : It :=
  ⟨fun i H => H d = some (.frz o (.dT kvs)) ∧ i < kvs.length, fun i H x H' => ∃ (T : Addr) (k : List Key) (v : V) (q : Addr), kvs[i]? = some (k, v) ∧ x = .ref T ∧ H T = none ∧ H q = some (.tup (k.map kV)) ∧ H' = upd H T (.tup [.ref q, v]), fun i H => H d = some (.frz o (.dT kvs)) ∧ kvs.length ≤ i⟩
theorem frzTv {X : Cx} {pins : List (Addr × Obj)} {σ : L2.St} {H : Hp} {s : Shared} {kvs : List (List Key × V)} (I : L2.Inv X pins σ H s) (h : H d = some (.frz o (.dT kvs))) :
    (d == sysModules) = false ∧ s.heap.get? d = some o ∧ o.ExactDict ∧ kvs.length ≤ sizeLine ∧ ∃ (es : Array DictEntry) (ep : Nat), o.data = .dict es ep ∧ es.size = kvs.length ∧
      ∀ (i : Nat) (k : List Key) (v : V), kvs[i]? = some (k, v) → ∃ (en : DictEntry) (q : Addr), es[i]? = some en ∧ en.key = .ref q ∧ H q = some (.tup (k.map kV)) ∧ RelV v en.val := by
  obtain ⟨hd, z, hs, xs, pr, o', es, ep, ho, hx, hdt, he, _⟩ := I.hok d _ h
  rw [hd] at ho
  cases ho
  refine ⟨hs, hd, hx, z, es, ep, hdt, ?_, fun i k v e => ?_⟩
  · have l1 : es.size = xs.length := size_of_entries he
    have l2 : kvs.length = xs.length := Paired.length pr
    omega
  · obtain ⟨b, hb, e1, e2, e3⟩ := paired_get pr e
    have q := entry_at he i
    rw [hb] at q
    exact ⟨_, b.2.1, q, rfl, e2, e3⟩
theorem turn_itemsT {kvs : List (List Key × V)} {elts : List Expr} {kk : Nat} {tpos : Pos} (it : Addr) (hod : o.data = .dict es ep) :
    Turn P w K (.Tuple elts kk tpos) (ItiT d o kvs) [it] it (fun i h => ∃ ok ov, IsItemIter h it d i kvs.length ep ok ov) where
  mem := by simp
  obj := fun i h st b hb => by
    have e : b = it := by simpa using hb
    subst e
    obtain ⟨ok, ov, e⟩ := st
    exact ⟨_, e, fun v z => nomatch z⟩
  keep := fun i h h' st k => let ⟨ok, ov, e⟩ := st; ⟨ok, ov, k it (by simp) _ e⟩
  item := by
    intro X hP hw hK hc i pins s σ H E I hf st hg
    subst hP hw hK
    obtain ⟨hd, hi⟩ := hg
    obtain ⟨hs, hgd, hx, hz, es', ep', hdt, hsz, ent⟩ := frzTv I hd
    obtain ⟨rfl, rfl⟩ := dict_ep hod hdt
    obtain ⟨⟨k, v⟩, hkv⟩ : ∃ p, kvs[i]? = some p := ⟨kvs[i], List.getElem?_eq_getElem hi⟩
    obtain ⟨en, q, hen, ek, hq, rv⟩ := ent i k v hkv
    obtain ⟨ok, ov, he⟩ := st
    rw [← hsz] at he
    have hi' : i < es'.size := by omega
    have een : es'[i] = en := by
      rw [Array.getElem?_eq_getElem hi'] at hen; exact Option.some.inj hen
    have hlt : it < s.heap.objs.size := Heap.lt_size he
    refine PySem.wpAny_pyNext_items_item_raw he ⟨o, hgd, hx, hod⟩ hi' fun h' ho hT hz hk => ?_
    rw [een] at ho hT
    refine ⟨_, rfl, wpAny_letOwnedTupleGo_items (s := { s with heap := h' }) ho fun h'' he' sb => ?_⟩
    have hT2 : h''.get? s.heap.objs.size = some { cls := .type "tuple", data := .seq #[en.key, en.val] } := (sb.2 _ (Nat.ne_of_gt hlt)).trans hT
    have new : ObjOk X.prog X.w (upd H s.heap.objs.size (.tup [.ref q, v])) h'' s.heap.objs.size (.tup [.ref q, v]) :=
      ⟨by show 2 ≤ sizeLine; decide, [en.key, en.val], .cons ek (.cons rv .nil), ⟨_, hT2, rfl, _, rfl⟩⟩
    have I1 : Inv X pins σ (upd H s.heap.objs.size (.tup [.ref q, v])) { s with heap := h'' } :=
      I.turnedNew (t' := s.toks) (ch := [it]) (fun b ob hb e => (sb.2 b (by simpa using hb)).trans (hk b ob (by simpa using hb) e)) hf (Nat.le_refl _) new
    refine ⟨.ref s.heap.objs.size, _, I1, rfl, ⟨_, k, v, q, hkv, rfl, I.hok.fresh (Nat.le_refl _), hq, rfl⟩, ⟨en.key, en.val, ?_⟩, fun b hb => ?_⟩
    · rw [← hsz]; exact he'
    · have e : b = it := by simpa using hb
      rw [e, upd_ne (Nat.ne_of_lt hlt)]
      exact (hf it (by simp)).1
  done := by
    intro X hP hw hK hc i pins s σ H E I hf st hg
    subst hP hw hK
    obtain ⟨hd, hi⟩ := hg
    obtain ⟨f0, f1, f2, f3, f4, f5⟩ := hf it (by simp)
    obtain ⟨hs, hgd, hx, hz, es', ep', hdt, hsz, ent⟩ := frzTv I hd
    obtain ⟨rfl, rfl⟩ := dict_ep hod hdt
    obtain ⟨ok, ov, he⟩ := st
    rw [← hsz] at he
    exact PySem.wpAny_pyNext_items_end_raw (I.ok.hd hc) he ⟨o, hgd, hx, hod⟩ (by omega) fun h' eb => ⟨rfl, I.turned (t' := s.toks) (fun b ob hb e => eb b ob hb e) f0 f1 f3 f4 f5⟩
  self := fun A i s Q E st h => let ⟨_, _, e⟩ := st; PySem.W.kcp_self e h
end
def iItemsT (td : TE) : TI := fun σ H R => td σ H fun x H1 => ∃ (d : Addr) (o : Obj) (kvs : List (List Key × V)), x = .ref d ∧ H1 d = some (.frz o (.dT kvs)) ∧ R (ItiT d o kvs) H1
section
variable {X : Cx} {tg e : Expr} {td : TE} {apos cpos : Pos}
theorem pi_itemsT {elts : List Expr} {kk : Nat} {tpos : Pos} (he : PE X e td) (hbase : attributeBase e "items" X.env (eval e X.env) = eval e X.env := by rfl) (hline : (apos.endLine == cpos.line) = true := by rfl) :
    PI X (.Tuple elts kk tpos) (.Call (.Attribute e "items" apos) [] [] cpos) (iItemsT td) := by
  refine ⟨fun pins s σ H R I h => ?_⟩
  refine wpAny_Call_method (T := "dict") (id := "dict.items") hbase rfl hline PySem.F.plainAttrs_dict PySem.F.slot_dict_items PySem.F.type_dict_items (thn (he.run pins s σ H _ I h) fun u s1 ⟨x, H1, I1, rx, d, o, kvs, ex, hd, q⟩ => ?_)
  subst ex
  obtain rfl : u = Value.ref d := rx
  obtain ⟨hs, hgd, hx, hz, es, ep, hdt, hsz, ent⟩ := frzTv I1 hd
  have raw : s1.heap.DictRaw d es ep := ⟨o, hgd, hx, hdt⟩
  refine ⟨raw.typeIs, fun b eb => by cases eb; exact ⟨o, hgd, hx.2.1⟩, ?_⟩
  have I2 : Inv X pins σ H1 { s1 with heap := s1.heap.push { cls := .type "dict_items", data := .fields #[.ref d] } } := I1.kept (t' := s1.toks) fun b o q => Heap.get?_push_of_some _ q
  have fin : wpAny (model X.prog X.w) X.A (pyIter (.ref s1.heap.objs.size)) (PIE X pins σ (.Tuple elts kk tpos) R) X.xe { s1 with heap := s1.heap.push { cls := .type "dict_items", data := .fields #[.ref d] } } := by
    refine PySem.wpAny_pyIter_items_raw (d := d) (es := es) (ep := ep) ⟨_, Heap.get?_push_size _ rfl, rfl, rfl⟩ (raw.at fun _ e => Heap.get?_push_of_some _ e) (pi_one (tk := s1.toks) I2 _ (turn_itemsT _ hdt) ⟨.none, .none, ?_⟩ q)
    rw [← hsz]
    exact Heap.get?_push_size _ rfl
  show wpAny _ _ (callWith cpos (.builtin "dict.items") [.ref d] [] []) _ X.xe s1
  exact method_meetsIn PySem.F.slot_dict_items PySem.F.entry_dict_items rfl (PySem.evalArgs_none ⟨rfl, raw.typeIs, PySem.F.args_dict_items_1 _, _, PySem.meets_dict_items_raw d hs, ⟨es, ep, raw⟩, fin⟩)
end
/-! ### the clean side -/
def xF (G : Mp.Gl) (K : PySem.W.Frag) (W : WX) : Sx G K W where
  μ0 := fun _ => none
  H0 := fun _ => none
  EX := fun _ _ => False
  P := fun _ _ _ => True
  mono := fun _ _ => trivial
  ok := fun _ _ _ _ _ _ h => h.elim
theorem ext0 {μ : Mu} {H : Hp} : Ext (fun _ => none) (fun _ => none) μ H := ⟨fun _ _ h => (nomatch h), fun _ _ h => (nomatch h), fun _ _ _ h => (nomatch h)⟩
section
variable {G : Mp.Gl} {K : PySem.W.Frag}
theorem RKT.get {μ : Mu} {H : Hp} : ∀ {kv : List (List L2.Key × V)} {kvs : List (D × D)} {i : Nat} {kd ed : D}, RKT K μ H kv kvs → kvs[i]? = some (kd, ed) → ∃ k v ds, kv[i]? = some (k, v) ∧ kd = .tup ds ∧ RDs K μ H (k.map kV) ds ∧ RD K μ H v ed
  | _, _, 0, kd, ed, .cons h1 h2 h3 h4, e => by
    simp only [List.getElem?_cons_zero, Option.some.injEq, Prod.mk.injEq] at e
    obtain ⟨e1, e2⟩ := e
    subst e1 e2
    exact ⟨_, _, _, rfl, rfl, h2, h3⟩
  | _, _, i + 1, kd, ed, .cons h1 h2 h3 h4, e => by
    rw [List.getElem?_cons_succ] at e ⊢
    exact RKT.get h4 e
theorem RK1.get {μ : Mu} {H : Hp} : ∀ {kv : List (L2.Key × V)} {kvs : List (D × D)} {i : Nat} {kd ed : D}, RK1 K μ H kv kvs → kvs[i]? = some (kd, ed) → ∃ k v, kv[i]? = some (k, v) ∧ RD K μ H (kV k) kd ∧ RD K μ H v ed
  | _, _, 0, kd, ed, .cons h1 h2 h3 h4, e => by
    simp only [List.getElem?_cons_zero, Option.some.injEq, Prod.mk.injEq] at e
    obtain ⟨e1, e2⟩ := e
    subst e1 e2
    exact ⟨_, _, rfl, h2, h3⟩
  | _, _, i + 1, kd, ed, .cons h1 h2 h3 h4, e => by
    rw [List.getElem?_cons_succ] at e ⊢
    exact RK1.get h4 e
theorem src_itemsT {μ0 : Mu} {H0 : Hp} {a : Addr} {od : Obj} {kv : List (List L2.Key × V)} {kvs : List (D × D)} (h : H0 a = some (.frz od (.dT kv))) (r : RKT K μ0 H0 kv kvs) (stand : Sto → Prop) : SrcOk G K μ0 H0 (ItiT a od kv) (kvs.map fun p => .tup [p.1, p.2]) stand where
  go := fun i μ S H e R _ hi => ⟨e.frz _ _ _ h, by rw [r.length]; simpa using hi⟩
  stop := fun i μ S H e R _ hi => ⟨e.frz _ _ _ h, by rw [r.length, hi]; simp⟩
  yld := fun i μ S H x H' d e R _ hd ⟨T, k, v, q, h1, h2, h3, h4, h5⟩ => by
    subst h2 h5
    rw [List.getElem?_map] at hd
    cases e1 : kvs[i]? with
    | none => rw [e1] at hd; cases hd
    | some p =>
      rw [e1] at hd
      cases hd
      obtain ⟨k', v', ds, g1, g2, g3, g4⟩ := (r.ext e).get (kd := p.1) (ed := p.2) e1
      rw [h1] at g1
      cases g1
      have ex : Ext μ H μ (upd H T (.tup [.ref q, v])) := Ext.upd (.inl h3)
      refine ⟨ex, R.other (R.fresh h3) (.inl h3), ?_⟩
      show RD K μ _ _ (.tup [p.1, p.2])
      rw [g2]
      exact .tup upd_same (.cons ((RD.tup h4 g3).ext ex) (.cons (g4.ext ex) .nil))
theorem src_keysT {μ0 : Mu} {H0 : Hp} {a : Addr} {od : Obj} {kv : List (List L2.Key × V)} {kvs : List (D × D)} (h : H0 a = some (.frz od (.dT kv))) (r : RKT K μ0 H0 kv kvs) (stand : Sto → Prop) : SrcOk G K μ0 H0 (Itkt a od kv) (kvs.map (·.1)) stand where
  go := fun i μ S H e R _ hi => ⟨e.frz _ _ _ h, by rw [r.length]; simpa using hi⟩
  stop := fun i μ S H e R _ hi => ⟨e.frz _ _ _ h, by rw [r.length, hi]; simp⟩
  yld := fun i μ S H x H' d e R _ hd ⟨h0, k, v, q, h1, h2, h4⟩ => by
    subst h2 h0
    rw [List.getElem?_map] at hd
    cases e1 : kvs[i]? with
    | none => rw [e1] at hd; cases hd
    | some p =>
      rw [e1] at hd
      cases hd
      obtain ⟨k', v', ds, g1, g2, g3, g4⟩ := (r.ext e).get (kd := p.1) (ed := p.2) e1
      rw [h1] at g1
      cases g1
      refine ⟨Ext.refl _ _, R, ?_⟩
      show RD K μ _ _ p.1
      rw [g2]
      exact .tup h4 g3
theorem src_keys1 {μ0 : Mu} {H0 : Hp} {a : Addr} {od : Obj} {kv : List (L2.Key × V)} {kvs : List (D × D)} (h : H0 a = some (.frz od (.dK kv))) (r : RK1 K μ0 H0 kv kvs) (stand : Sto → Prop) : SrcOk G K μ0 H0 (Itk a od kv) (kvs.map (·.1)) stand where
  go := fun i μ S H e R _ hi => ⟨e.frz _ _ _ h, by rw [r.length]; simpa using hi⟩
  stop := fun i μ S H e R _ hi => ⟨e.frz _ _ _ h, by rw [r.length, hi]; simp⟩
  yld := fun i μ S H x H' d e R _ hd ⟨h0, k, v, h1, h2⟩ => by
    subst h2 h0
    rw [List.getElem?_map] at hd
    cases e1 : kvs[i]? with
    | none => rw [e1] at hd; cases hd
    | some p =>
      rw [e1] at hd
      cases hd
      obtain ⟨k', v', g1, g2, g3⟩ := (r.ext e).get (kd := p.1) (ed := p.2) e1
      rw [h1] at g1
      cases g1
      exact ⟨Ext.refl _ _, R, g2⟩
/-- what a dict of the store is, locked and unlocked -/
theorem dic_lock {μ : Mu} {S : Sto} {H : Hp} {x : D} {v : V} {r : Nat} {t : Bool} {kvs : List (D × D)} (R : Rel G.N K μ S H) (rv : RD K μ H v x) (hd : dicAt S x = some (r, t, kvs)) :
    ∃ a u, x = .ref r ∧ v = .ref a ∧ μ r = some a ∧ H a = some u ∧ isDic u ∧ (∀ μ' H', Ext μ H μ' H' → RO G.N K μ' (upd H' a u) a (.dic t false kvs)) ∧ (∀ od, RO G.N K μ (upd H a (.frz od u)) a (.dic t true kvs)) ∧
      ((∃ kv, t = true ∧ u = .dT kv ∧ RKT K μ H kv kvs) ∨ ∃ kv, t = false ∧ u = .dK kv ∧ RK1 K μ H kv kvs) := by
  cases x with
  | ref r' =>
    unfold dicAt at hd
    simp only at hd
    split at hd
    · rename_i t' kvs' es
      cases hd
      obtain ⟨a, rfl, g0, g1⟩ := R.ref rv es
      cases t with
      | true =>
        obtain ⟨kv, i1, i2⟩ := g1
        have mu : Mut (H a) := by rw [i1]; trivial
        refine ⟨a, .dT kv, rfl, rfl, g0, i1, trivial, fun μ' H' e => ?_, fun od => ⟨od, kv, upd_same, i2.ext (Ext.upd (.inr mu))⟩, .inl ⟨kv, rfl, rfl, i2⟩⟩
        have e2 : Ext μ H μ' (upd H' a (.dT kv)) := ⟨e.mu, fun b xs hb => by rw [upd_ne (by rintro rfl; rw [i1] at hb; cases hb)]; exact e.tup _ _ hb, fun b o u hb => by rw [upd_ne (by rintro rfl; rw [i1] at hb; cases hb)]; exact e.frz _ _ _ hb⟩
        exact ⟨kv, upd_same, i2.ext e2⟩
      | false =>
        obtain ⟨kv, i1, i2⟩ := g1
        have mu : Mut (H a) := by rw [i1]; trivial
        refine ⟨a, .dK kv, rfl, rfl, g0, i1, trivial, fun μ' H' e => ?_, fun od => ⟨od, kv, upd_same, i2.ext (Ext.upd (.inr mu))⟩, .inr ⟨kv, rfl, rfl, i2⟩⟩
        have e2 : Ext μ H μ' (upd H' a (.dK kv)) := ⟨e.mu, fun b xs hb => by rw [upd_ne (by rintro rfl; rw [i1] at hb; cases hb)]; exact e.tup _ _ hb, fun b o u hb => by rw [upd_ne (by rintro rfl; rw [i1] at hb; cases hb)]; exact e.frz _ _ _ hb⟩
        exact ⟨kv, upd_same, i2.ext e2⟩
    · cases hd
  | _ => cases hd
theorem mut_dic {u : HO} (h : isDic u) : Mut (some u) := by cases u <;> first | trivial | exact h.elim
theorem ext_unlock {μ μ' : Mu} {H H' : Hp} {a : Addr} {u : HO} (hu : H a = some u) (hd : isDic u) (e : Ext μ H μ' H') : Ext μ H μ' (upd H' a u) :=
  ⟨e.mu, fun b xs hb => by rw [upd_ne (by rintro rfl; rw [hu] at hb; cases hb; exact hd.elim)]; exact e.tup _ _ hb, fun b o w hb => by rw [upd_ne (by rintro rfl; rw [hu] at hb; cases hb; exact hd.elim)]; exact e.frz _ _ _ hb⟩
end
section
variable {G : Mp.Gl} {X : Cx} {C : Calls} {hx : Option Nat} {pos p : Pos} {y : Str} {cs : Cms} {es : List Expr}
/-- the ends behind the lock -/
def lockD (a : Addr) (od : Obj) (u : HO) (D : Ends) : Ends := ⟨fun σ' H' => H' a = some (.frz od u) ∧ D.nx σ' (upd H' a u), fun v H' => H' a = some (.frz od u) ∧ D.rt v (upd H' a u), fun σ' H' => H' a = some (.frz od u) ∧ D.bk σ' (upd H' a u), fun σ' H' => H' a = some (.frz od u) ∧ D.ct σ' (upd H' a u)⟩
theorem kd_lock {W : WX} {x : Sx G X.K W} (ha : x.any) {σ : L2.St} {μ : Mu} {S : Sto} {H : Hp} {ρ : Mp.Env} {k : Kt} {E0 : Ends} {r : Nat} {t : Bool} {kvs : List (D × D)} {a : Addr} {u : HO} {od : Obj} (wd : Wd x σ H μ S ρ) (kd : KD x k E0 μ H) (hr : μ r = some a) (hu : H a = some u) (hd : isDic u)
    (ro : ∀ μ' H', Ext μ H μ' H' → RO G.N X.K μ' (upd H' a u) a (.dic t false kvs)) : KD (xF G X.K W) (lkK r t kvs k) (lockD a od u E0) μ (upd H a (.frz od u)) := by
  have eL : Ext μ H μ (upd H a (.frz od u)) := Ext.upd (.inr (by rw [hu]; exact mut_dic hd))
  have at_ : ∀ μ' H', Ext μ (upd H a (.frz od u)) μ' H' → H' a = some (.frz od u) := fun μ' H' e => e.frz _ _ _ upd_same
  have un : ∀ μ' S' H', Ext μ (upd H a (.frz od u)) μ' H' → Rel G.N X.K μ' S' H' → Ext μ H μ' (upd H' a u) ∧ Rel G.N X.K μ' (S'.set r (.dic t false kvs)) (upd H' a u) ∧ Exw μ' H' μ' (upd H' a u) := fun μ' S' H' e R =>
    ⟨ext_unlock hu hd (eL.trans e), R.unlock ((eL.trans e).mu _ _ hr) (at_ _ _ e) hd (ro μ' H' (eL.trans e)), Exw.unlock (at_ _ _ e) hd⟩
  refine ⟨fun μ' H' S' σ' ρ' e w n => ?_, fun μ' H' S' v d e R rd n => ?_, fun μ' H' S' σ' ρ' e w n => ?_, fun μ' H' S' σ' ρ' e w n => ?_⟩
  · obtain ⟨e2, R2, ew⟩ := un μ' S' H' e w.rel
    exact ⟨at_ _ _ e, kd.nx μ' _ _ σ' ρ' e2 ⟨wd.ext.trans e2, R2, w.re.extw ew, ha _ _ _⟩ n.2⟩
  · obtain ⟨e2, R2, ew⟩ := un μ' S' H' e R
    exact ⟨at_ _ _ e, kd.rt μ' _ _ v d e2 R2 (rd.extw ew) n.2⟩
  · obtain ⟨e2, R2, ew⟩ := un μ' S' H' e w.rel
    exact ⟨at_ _ _ e, kd.bk μ' _ _ σ' ρ' e2 ⟨wd.ext.trans e2, R2, w.re.extw ew, ha _ _ _⟩ n.2⟩
  · obtain ⟨e2, R2, ew⟩ := un μ' S' H' e w.rel
    exact ⟨at_ _ _ e, kd.ct μ' _ _ σ' ρ' e2 ⟨wd.ext.trans e2, R2, w.re.extw ew, ha _ _ _⟩ n.2⟩
theorem cs_forI (hC : MonoC C) {i j v : Nat} {t : TGs} {kk : Nat} {tpos apos cpos : Pos} {body : List Stmt} (hp : PassesOwn (model X.prog X.w) X.A X.env X.xe) (hc : X.calm = true) (ht : PGv X es [i, j] t) (hn : (assignEach es X.env).length = [i, j].length) (hst : (assignEach es X.env).findIdx? (·.1) = none)
    (hN : X.N[v]? = some y) (hv : Vis X.env.scope y) (hdb : (y == ("__debug__" : Str)) = false) (hcd : (y == ("__classdict__" : Str)) = false) (hb : CSs G C hx X body cs)
    (hbase : attributeBase (.Name y p) "items" X.env (eval (.Name y p) X.env) = eval (.Name y p) X.env := by rfl) (hline : (apos.endLine == cpos.line) = true := by rfl)
    (hs : ∀ z, foldedSetIterable (.Call (.Attribute (.Name y p) "items" apos) [] [] cpos) X.env z = pure z := by intro _; rfl) :
    CS G C hx X (.For (.Tuple es kk tpos) (.Call (.Attribute (.Name y p) "items" apos) [] [] cpos) body [] pos) (.forI i j v cs) := fun W tk x ha => by
  refine (ps_lock (ps_for hp hc (pi_itemsT (pe_var hN hv hdb hcd) hbase hline) (pg_tup hc ht.ok hn hst) (hb W tk (xF G X.K W) fun _ _ _ => trivial) hs)).imp fun σ H D ⟨μ, S, ρ, k, wd, q, kd⟩ => ?_
  replace q : (match ρ[v]? with
    | some (some x) => (match dicAt S x with
      | some (r, true, kvs) => foN (asgT [i, j]) (fun S' => S'[r]? = some (.dic true true kvs)) (fun ρ S K => wpCs G.T C hx cs ρ S K fun _ _ => False) (lkK r true kvs k) (kvs.map fun p => .tup [p.1, p.2]) ρ (S.set r (.dic true true kvs))
      | _ => False)
    | _ => False) := q
  split at q
  · rename_i xv ex
    split at q
    · rename_i r kvs ed
      obtain ⟨vv, h1, h2⟩ := wd.re.at_ v xv ex
      obtain ⟨a, u, rfl, rfl, g0, g1, g2, g3, g4, g5⟩ := dic_lock wd.rel h2 ed
      refine ⟨a, u, g1, mut_dic g2, fun od => ?_⟩
      have mu : Mut (H a) := by rw [g1]; exact mut_dic g2
      have eL : Ext μ H μ (upd H a (.frz od u)) := Ext.upd (.inr mu)
      rcases g5 with ⟨kv, _, rfl, i2⟩ | ⟨kv, z, rfl, i2⟩
      · refine ⟨.ref a, h1, a, od, kv, rfl, upd_same, ?_⟩
        have w2 : Wd (xF G X.K W) σ (upd H a (.frz od (.dT kv))) μ (S.set r (.dic true true kvs)) ρ := ⟨ext0, wd.rel.write g0 mu (g4 od), wd.re.ext eL, trivial⟩
        exact for_core hC (fun _ _ _ => trivial) (tg_tup ht rfl) w2 (src_itemsT upd_same (i2.ext eL) _) q (kd_lock ha wd kd g0 g1 g2 g3)
      · cases z
    · exact q.elim
  · exact q.elim
end
end Mp
/-! for x in v (a dict's keys, or the items of a list); {k: c}; l.index(x). -/
namespace Mp
open PySem PySem.Spec PyProof.Rows L2
theorem _root_.L2.PS.or {X : Cx} {st : Stmt} {t t' : TS} (h : PS X st t) (h' : PS X st t') : PS X st (fun D σ H => t D σ H ∨ t' D σ H) := ⟨fun pins s σ H D I q => q.elim (h.run pins s σ H D I) (h'.run pins s σ H D I)⟩
section
variable {G : Mp.Gl} {X : Cx} {C : Calls} {hx : Option Nat} {pos p : Pos} {y z : Str} {cs : Cms}
theorem cs_forV (hC : MonoC C) {i v : Nat} {pos' : Pos} {body : List Stmt} (hp : PassesOwn (model X.prog X.w) X.A X.env X.xe) (hc : X.calm = true) (hNd : X.N.Nodup) (hi : X.N[i]? = some z) (hz : Loc X.env.scope z) (hf : X.fn z = true ∨ X.env.scope.names.lookup z = some .local)
    (hN : X.N[v]? = some y) (hv : Vis X.env.scope y) (hdb : (y == ("__debug__" : Str)) = false) (hcd : (y == ("__classdict__" : Str)) = false) (hb : CSs G C hx X body cs)
    (hs : ∀ w, foldedSetIterable (.Name y p) X.env w = pure w := by intro _; rfl) : CS G C hx X (.For (.Name z pos') (.Name y p) body [] pos) (.forV i v cs) := fun W tk x ha => by
  refine (PS.or (ps_lock (ps_for hp hc (pi_keys (pe_var hN hv hdb hcd)) (pg_name hNd hi hz hf) (hb W tk (xF G X.K W) fun _ _ _ => trivial) hs)) (cs_for hC hp hc (ci_seq hC (ce_var (i := v) hN hv hdb hcd)) (pg_name hNd hi hz hf) tg_name hb hs tk x ha)).imp fun σ H E0 ⟨μ, S, ρ, k, wd, q, kd⟩ => ?_
  replace q : (match ρ[v]? with
    | some (some xv) => (match dicAt S xv with
      | some (r, t, kvs) => foN (asg1 i) (fun S' => S'[r]? = some (.dic t true kvs)) (fun ρ S K => wpCs G.T C hx cs ρ S K fun _ _ => False) (lkK r t kvs k) (kvs.map (·.1)) ρ (S.set r (.dic t true kvs))
      | none => (match wkOf S xv with
        | some w => foN (asg1 i) w.stand (fun ρ S K => wpCs G.T C hx cs ρ S K x.EX) k w.items ρ S
        | none => False))
    | _ => False) := q
  split at q
  · rename_i xv ex
    split at q
    · rename_i r t kvs ed
      refine .inl ?_
      obtain ⟨vv, h1, h2⟩ := wd.re.at_ v xv ex
      obtain ⟨a, u, rfl, rfl, g0, g1, g2, g3, g4, g5⟩ := dic_lock wd.rel h2 ed
      refine ⟨a, u, g1, mut_dic g2, fun od => ?_⟩
      have mu : Mut (H a) := by rw [g1]; exact mut_dic g2
      have eL : Ext μ H μ (upd H a (.frz od u)) := Ext.upd (.inr mu)
      have w2 : Wd (xF G X.K W) σ (upd H a (.frz od u)) μ (S.set r (.dic t true kvs)) ρ := ⟨ext0, wd.rel.write g0 mu (g4 od), wd.re.ext eL, trivial⟩
      have kl := kd_lock (od := od) ha wd kd g0 g1 g2 g3
      rcases g5 with ⟨kv, rfl, rfl, i2⟩ | ⟨kv, rfl, rfl, i2⟩
      · exact ⟨.ref a, h1, a, od, rfl, .inr ⟨kv, upd_same, for_core hC (fun _ _ _ => trivial) tg_name w2 (src_keysT upd_same (i2.ext eL) _) q kl⟩⟩
      · exact ⟨.ref a, h1, a, od, rfl, .inl ⟨kv, upd_same, for_core hC (fun _ _ _ => trivial) tg_name w2 (src_keys1 upd_same (i2.ext eL) _) q kl⟩⟩
    · rename_i ed
      split at q
      · rename_i w ew
        refine .inr ⟨μ, S, ρ, k, wd, ?_, kd⟩
        show wpI G.T C hx (.seq (.var v)) ρ S _ x.EX
        simp only [wpI, wpE, ex, ew]
        exact q
      · exact q.elim
  · exact q.elim
/-- {x: c} -/
theorem ce_disp1 {i : Nat} {e2 : Expr} {d : D} {cv : V} {kp : Pos} (hN : X.N[i]? = some y) (hv : Vis X.env.scope y) (hdb : (y == ("__debug__" : Str)) = false) (hcd : (y == ("__classdict__" : Str)) = false) (hc : PE X e2 (tC cv)) (hr : ∀ μ H, RD X.K μ H cv d) :
    Mp.CE G C hx X (.Dict [some (.Name y kp)] [e2] pos) (.op .disp1 (.cons (.var i) (.cons (.cst d) .nil))) := fun W tk x => by
  refine (pe_disp (pps_cons (pe_var hN hv hdb hcd) hc pps_nil) rfl rfl (by simp) (by simp)).imp fun σ H Q ⟨μ, S, ρ, wd, q⟩ => ?_
  simp only [wpE, wpEs] at q
  split at q
  · rename_i dk ek
    obtain ⟨w, S3, hz, q3⟩ := opD_some q
    replace hz : (if (key1 dk).isSome = true then some ((.ref S.length : D), S ++ [Ob.dic false false [(dk, d)]]) else none) = some (w, S3) := hz
    split at hz
    · rename_i hk
      cases hz
      obtain ⟨kk, hkk⟩ := Option.isSome_iff_exists.mp hk
      obtain ⟨vv, h1, h2⟩ := wd.re.at_ i _ ek
      have e1 := key1_kV h2 hkk
      subst e1
      intro pp hpp
      refine ⟨kV kk, h1, ?_⟩
      refine ⟨upd_same, [(kk, cv)], rfl, by simp, ?_⟩
      rw [upd_upd]
      have eP := wd.rel.pushExt (o := .dK (mergeK [] [(kk, cv)])) hpp
      exact new_ob (ob := .dic false false [(dk, d)]) wd.rel (Ext.refl _ _) hpp ⟨[(kk, cv)], upd_same, .cons hkk (h2.ext eP) (hr _ _) .nil⟩ q3
    · cases hz
  · exact q.elim
end
section
variable {G : Mp.Gl} {K : PySem.W.Frag}
theorem ty_index : TYM G K .index "list" := fun μ S H x d R r t => by
  obtain ⟨ds, h3⟩ := Option.isSome_iff_exists.mp (show (seqD S d).isSome = true from t)
  obtain ⟨p, vs, rfl, g1, g2⟩ := R.seq r h3
  exact .inl ⟨rfl, vs, g1⟩
theorem vm_index : VOM G K oIndex (rIndexD K) := fun μ0 H0 μ S H x dx vs ds Q d S' e R rx rd h q => by
  unfold oIndex at h
  split at h
  · rename_i a b S2 ez
    cases ez
    split at h
    · rename_i es hs
      obtain ⟨j, hj, e2⟩ := Option.map_eq_some_iff.mp h
      cases e2
      obtain ⟨vb, rfl, h1⟩ := rd.one
      unfold placeD at hj
      split at hj
      · rename_i p qs e3 e4
        dsimp only at hj
        split at hj
        · rename_i hlt
          cases hj
          obtain ⟨a1, a2, a3⟩ := pd_ok R _ _ _ _ h1 e3
          obtain ⟨ad, ws, rfl, g1, g2⟩ := R.seq rx hs
          obtain ⟨b1, b2, b3⟩ := pds_ok R (pd_ok R 12) es _ qs g2 e4
          refine ⟨ad, vb, p, qs, _, qs[qs.findIdx fun z => PyData.eqv z p], rfl, rfl, .lst g1 b1, a1, shaped_of b2 (by rw [PyData.depth]; omega), shaped_of a2 (by omega), List.getElem?_eq_getElem hlt, ?_, fun m z' hm hz' => ?_, q.give e R (.int _)⟩
          · exact List.findIdx_getElem (w := hlt)
          · have hm2 : m < qs.length := by omega
            rw [List.getElem?_eq_getElem hm2] at hz'
            cases hz'
            have := List.not_of_lt_findIdx hm
            simpa using this
        · cases hj
      · cases hj
    · cases h
  · cases h
end
end Mp
/-! try: y = e / except C as n: a plain suite. -/
namespace Mp
open PySem PySem.Spec PyProof.Rows L2

/-- no exception is let out of an except suite -/
def WN : WX := fun _ _ _ _ => False
theorem takes_suite {X : Cx} {a : Addr} {pn : List (Addr × Obj)} : Takes (X.suite a pn) WN := fun u s' ⟨_, _, _, _, _, _, _, _, h⟩ => h.2.2.2.2.2.2.2.2.elim
/-- the slot ie holds the exception at a -/
structure HX {G : Gl} {K : PySem.W.Frag} (ie : Nat) (a : Addr) (x : Sx G K WN) : Prop where
  has : ∀ {μ H σ}, x.P μ H σ → σ[ie]? = some (some (.ref a))
  set : ∀ {j v μ H σ}, j ≠ ie → x.P μ H σ → x.P μ H (σ.set j (some v))

section
variable {G : Gl} {C : Calls} {k ie : Nat} {a : Addr} {X : Cx} {e : Expr} {es : List Expr} {m : Tm} {ms : Tms} {pos p : Pos} {y : Str} {st : Stmt} {sts : List Stmt} {c : Cm} {cs : Cms}
def HE (G : Gl) (C : Calls) (k ie : Nat) (a : Addr) (X : Cx) (e : Expr) (m : Tm) : Prop := ∀ x : Sx G X.K WN, HX ie a x → PE X e (LE x (mE G C (some k) m))
theorem HE.of (tk : Takes X WN) (h : CE G C (some k) X e m) : HE G C k ie a X e m := fun x _ => h WN tk x
inductive HEs (G : Gl) (C : Calls) (k ie : Nat) (a : Addr) (X : Cx) : List Expr → Tms → Prop
  | nil : HEs G C k ie a X [] .nil
  | cons {e : Expr} {es : List Expr} {m : Tm} {ms : Tms} : HE G C k ie a X e m → (∀ (y : Expr) (p : Pos), e ≠ .Starred y p) → HEs G C k ie a X es ms → HEs G C k ie a X (e :: es) (.cons m ms)
theorem HEs.pa (hC : MonoC C) (h : HEs G C k ie a X es ms) (x : Sx G X.K WN) (hx : HX ie a x) : PA X es (LA x (mEs G C (some k) ms)) := by
  induction h with
  | nil => exact pa_nil.imp fun σ H Q ⟨μ, S, ρ, wd, q⟩ => q μ H [] (Ext.refl _ _) wd.rel .nil
  | @cons e es m ms h1 hs h2 ih =>
    refine (pa_cons (h1 x hx) ih (starEach_cons hs _ _)).imp fun σ H Q ⟨μ, S, ρ, wd, q⟩ => ?_
    refine bindW (monoE hC m) wd q fun v H1 μ1 S1 d e1 w1 r1 q1 => ?_
    refine bindA (monoEs hC ms) w1 q1 fun vs H2 μ2 S2 ds e2 w2 r2 q2 => ?_
    exact q2 μ2 H2 (v :: vs) (e1.trans e2) w2.rel (.cons (r1.ext e2) r2)
theorem he_lst (hC : MonoC C) (h : HEs G C k ie a X es ms) : HE G C k ie a X (.List es pos) (.op .lst ms) := fun x hx => by
  refine (pe_lst (h.pa hC x hx)).imp fun σ H Q ⟨μ, S, ρ, wd, q⟩ => ?_
  refine bindA (monoEs hC ms) wd q fun vs H1 μ1 S1 ds e1 w1 r1 q1 => ?_
  exact vk_lst μ H μ1 S1 H1 vs ds Q e1 w1.rel r1 q1
/-! ### isinstance of the exception -/
variable {D : Addr} {oe : Obj} {pn : List (Addr × Obj)} {cl : Cl} {vc : V} {u : Value} {xc : Expr} {pe : Pos}
theorem he_isE (hD : L2.ExcC X.K D) (hz : Zc (.ref D) none oe) (hf : ∃ vs, oe.data = .fields vs) (hN : X.N[ie]? = some y) (hv : Vis X.env.scope y) (hd : (y == ("__debug__" : Str)) = false) (hcd : (y == ("__classdict__" : Str)) = false)
    (hc : PE (X.suite a ((a, oe) :: pn)) xc (tC vc)) (hvc : ClsV vc u) (hk : PySem.W.kitOne X.K (.ref D) u = some (excIs G.T k cl)) (hg : L2.Gl X "isinstance") (hm : X.mg "isinstance" = none)
    (he : starEach (.Name y pe :: [xc]) X.env = (false, eval (.Name y pe) X.env) :: starEach [xc] X.env := by rfl) (hpl : (backTo pos (starEach [xc] X.env)).any (·.1) = false := by rfl)
    (hs1 : starEach [xc] X.env = (false, eval xc X.env) :: starEach [] X.env := by rfl) : HE G C k ie a (X.suite a ((a, oe) :: pn)) (.Call (.Name "isinstance" p) [.Name y pe, xc] [] pos) (.isE [cl]) := fun x hx => by
  refine (pe_callB (X := X.suite a ((a, oe) :: pn)) (call_isE hD hz hf) hg hm (by decide +kernel) (pa_cons (pe_var (X := X.suite a ((a, oe) :: pn)) hN hv hd hcd) (pa_cons hc pa_nil hs1) he) (by decide) (by decide) he hpl).imp fun σ H Q ⟨μ, S, ρ, wd, q⟩ => ?_
  have q' : LQ G.N X.K μ H Q (.bl ([cl].any (excIs G.T k))) S := q
  refine ⟨_, hx.has wd.p, vc, u, excIs G.T k cl, rfl, fun w r => hvc.eq r, hk, ?_⟩
  have := q' μ H (.bl ([cl].any (excIs G.T k))) (Ext.refl _ _) wd.rel (.bl _)
  simpa using this
/-- .. of one of a tuple's classes -/
def rIsET (K : PySem.W.Frag) (D a : Addr) : List V → Hp → VK → Prop := fun xs H Q => ∃ (tp : Addr) (cs : List V) (us : List Value) (b : Bool), xs = [.ref a, .ref tp] ∧ H tp = some (.tup cs) ∧ Paired ClsV cs us ∧ PySem.W.kitAny K (.ref D) us = some b ∧ Q (.bl b) H
theorem call_isET (Cd : L2.ExcC X.K D) (hz : Zc (.ref D) none oe) (hf : ∃ vs, oe.data = .fields vs) : CallR (X.suite a ((a, oe) :: pn)) (.builtin "isinstance") (rIsET X.K D a) := by
  intro pins s σ H xs us Q I r h
  obtain ⟨tp, cs, ws, b, rfl, hT, kc, e, q⟩ := h
  obtain ⟨u1, u2, rfl, r1, r2⟩ := vals2 r
  cases (show u1 = Value.ref a from r1)
  cases (show u2 = Value.ref tp from r2)
  obtain ⟨hget, _⟩ := I.pin (a, oe) (List.mem_append.mpr (.inl List.mem_cons_self))
  obtain ⟨vs, hv⟩ := hf
  have J : PySem.W.InstAt s.heap a oe D none := by
    obtain ⟨oc, od, oda, osl⟩ := oe
    obtain ⟨h1, h2⟩ := hz
    dsimp only at h1 h2 hv
    subst h1 h2 hv
    exact ⟨hget, rfl, rfl, trivial⟩
  obtain ⟨_, its, rv, o, h1, h2, n, h3⟩ := (show ObjOk X.prog X.w H s.heap tp (.tup cs) from I.hok tp _ hT)
  have e3 := ClsV.all kc rv
  subst e3
  obtain ⟨oc, od, dt, sl⟩ := o
  simp only at h2 h3
  subst h2 h3
  exact PySem.W.kia_tup (PySem.W.handS_kitx_exc Cd.hg Cd.hk Cd.hs Cd.hd Cd.ha Cd.hn Cd.ht Cd.hm) I.kIn J h1 e (fun z => nomatch z) fun tk => ⟨.bl b, H, I.kept (t' := tk) fun _ _ z => z, rfl, q⟩
inductive ClsL (G : Gl) (K : PySem.W.Frag) (X : Cx) (k : Nat) (D : Addr) : List Expr → List Cl → List V → List Value → Prop
  | nil : ClsL G K X k D [] [] [] []
  | cons {xc : Expr} {vc : V} {u : Value} {cl : Cl} {es : List Expr} {cls : List Cl} {vs : List V} {us : List Value} : PE X xc (tC vc) → ClsV vc u → PySem.W.kitOne K (.ref D) u = some (excIs G.T k cl) → (∀ (y : Expr) (p : Pos), xc ≠ .Starred y p) → ClsL G K X k D es cls vs us → ClsL G K X k D (xc :: es) (cl :: cls) (vc :: vs) (u :: us)
theorem ClsL.pa {K : PySem.W.Frag} {cls : List Cl} {vs : List V} {us : List Value} (h : ClsL G K X k D es cls vs us) : PA X es (fun σ H Q => Q vs H) := by
  induction h with
  | nil => exact pa_nil.imp fun σ H Q q => q
  | cons h1 h2 h3 h4 h5 ih => exact (pa_cons h1 ih (starEach_cons h4 _ _)).imp fun σ H Q q => q
theorem ClsL.paired {K : PySem.W.Frag} {cls : List Cl} {vs : List V} {us : List Value} (h : ClsL G K X k D es cls vs us) : Paired ClsV vs us := by
  induction h with
  | nil => exact .nil
  | cons h1 h2 h3 h4 h5 ih => exact .cons h2 ih
theorem ClsL.any {K : PySem.W.Frag} {cls : List Cl} {vs : List V} {us : List Value} (h : ClsL G K X k D es cls vs us) : PySem.W.kitAny K (.ref D) us = some (cls.any (excIs G.T k)) := by
  induction h with
  | nil => rfl
  | @cons xc vc u cl es cls vs us h1 h2 h3 h4 h5 ih =>
    refine kitAny_cons h3 (fun z => ?_) fun z => ?_
    · rw [ih, List.any_cons, z, Bool.false_or]
    · rw [List.any_cons, z, Bool.true_or]
theorem ClsL.len {K : PySem.W.Frag} {cls : List Cl} {vs : List V} {us : List Value} (h : ClsL G K X k D es cls vs us) : vs.length = es.length := by
  induction h with
  | nil => rfl
  | cons h1 h2 h3 h4 h5 ih => simp [ih]
theorem he_isET {cls : List Cl} {vs : List V} {us : List Value} {kk : Nat} {pt : Pos} (hD : L2.ExcC X.K D) (hz : Zc (.ref D) none oe) (hf : ∃ vs, oe.data = .fields vs) (hN : X.N[ie]? = some y) (hv : Vis X.env.scope y) (hd : (y == ("__debug__" : Str)) = false) (hcd : (y == ("__classdict__" : Str)) = false)
    (hl : es.length ≤ sizeLine) (hc : ClsL G X.K (X.suite a ((a, oe) :: pn)) k D es cls vs us) (hg : L2.Gl X "isinstance") (hm : X.mg "isinstance" = none)
    (he : starEach (.Name y pe :: [.Tuple es kk pt]) X.env = (false, eval (.Name y pe) X.env) :: starEach [.Tuple es kk pt] X.env := by rfl) (hpl : (backTo pos (starEach [.Tuple es kk pt] X.env)).any (·.1) = false := by rfl)
    (hs1 : starEach [.Tuple es kk pt] X.env = (false, eval (.Tuple es kk pt) X.env) :: starEach [] X.env := by rfl) : HE G C k ie a (X.suite a ((a, oe) :: pn)) (.Call (.Name "isinstance" p) [.Name y pe, .Tuple es kk pt] [] pos) (.isE cls) := fun x hx => by
  refine (pe_callB (X := X.suite a ((a, oe) :: pn)) (call_isET hD hz hf) hg hm (by decide +kernel) (pa_cons (pe_var (X := X.suite a ((a, oe) :: pn)) hN hv hd hcd) (pa_cons (pe_tup hc.pa) pa_nil hs1) he) (by decide) (by decide) he hpl).imp fun σ H Q ⟨μ, S, ρ, wd, q⟩ => ?_
  have q' : LQ G.N X.K μ H Q (.bl (cls.any (excIs G.T k))) S := q
  refine ⟨_, hx.has wd.p, by rw [hc.len]; exact hl, fun tp hn => ⟨tp, vs, us, _, rfl, upd_same, hc.paired, hc.any, ?_⟩⟩
  exact q' μ _ _ (Ext.upd (.inl hn)) (wd.rel.other (wd.rel.fresh hn) (.inl hn)) (.bl _)
/-! ### the suite -/
def HS (G : Gl) (C : Calls) (k ie : Nat) (a : Addr) (X : Cx) (st : Stmt) (c : Cm) : Prop := ∀ x : Sx G X.K WN, HX ie a x → PS X st (LS x (mC G C (some k) c))
def HSs (G : Gl) (C : Calls) (k ie : Nat) (a : Addr) (X : Cx) (st : List Stmt) (c : Cms) : Prop := ∀ x : Sx G X.K WN, HX ie a x → PSs X st (LS x (mCs G C (some k) c))
theorem hss_nil : HSs G C k ie a X [] .nil := fun x ha => pss_nil.imp fun σ H D ⟨μ, S, ρ, k, wd, q, kd⟩ => kd.nx μ H S σ ρ (Ext.refl _ _) wd q
theorem hss_cons (h1 : HS G C k ie a X st c) (h2 : HSs G C k ie a X sts cs) : HSs G C k ie a X (st :: sts) (.cons c cs) := fun x ha => by
  refine (pss_cons (h1 x ha) (h2 x ha)).imp fun σ H D ⟨μ, S, ρ, k, wd, q, kd⟩ => ?_
  refine ⟨μ, S, ρ, _, wd, q, ?_, kd.rt, kd.bk, kd.ct⟩
  exact fun μ' H' S' σ' ρ' e w n => ⟨μ', S', ρ', k, w, n, kd.ext e⟩
theorem hs_asg (hC : MonoC C) {i : Nat} {pos' : Pos} (hN : X.N.Nodup) (hi : X.N[i]? = some y) (hy : Loc X.env.scope y) (hf : X.fn y = true ∨ X.env.scope.names.lookup y = some .local) (hie : i ≠ ie) (h : HE G C k ie a X e m)
    (hs : swapsWith e (some (.Name y pos')) pos.line X.env = pure false := by rfl) : HS G C k ie a X (.Assign [.Name y pos'] e pos) (.asg i m) := fun x ha => by
  refine (ps_set hN hi hy (h x ha) hs hf).imp fun σ H D ⟨μ, S, ρ, k, wd, q, kd⟩ => ?_
  refine bindW (monoE hC m) wd q fun v H1 μ1 S1 d e1 w1 r1 q1 => ?_
  exact kd.nx μ1 H1 S1 _ _ e1 ⟨w1.ext, w1.rel, w1.re.set r1, ha.set hie w1.p⟩ q1
end

theorem RE.cut {K : PySem.W.Frag} {μ : Mu} {H : Hp} {ρ : Env} {σ : L2.St} (h : RE K μ H ρ σ) {i : Nat} {o : Option V} : RE K μ H (ρ.set i none) (σ.set i o) := by
  refine ⟨by simp [h.len], fun j d z => ?_⟩
  by_cases hj : i = j
  · subst hj
    by_cases hl : i < ρ.length
    · rw [List.getElem?_set_self hl] at z; cases z
    · rw [List.getElem?_eq_none (by simpa using hl)] at z; cases z
  · rw [List.getElem?_set_ne hj] at z ⊢
    exact h.at_ j d z

section
variable {G : Gl} {C : Calls} {ie cc : Nat} {X : Cx} {e : Expr} {m : Tm} {pos p np : Pos} {x n : Str} {y : Str} {b₀ : Stmt} {suite : List Stmt} {hd : Cms} {cv : Value}
/-- the surroundings of an except suite -/
def hxSx (G : Gl) (K : PySem.W.Frag) (ie : Nat) (a : Addr) (μ : Mu) (H : Hp) : Sx G K WN := ⟨μ, H, fun _ _ => False, fun _ _ σ => σ[ie]? = some (some (.ref a)), fun _ h => h, fun _ _ _ _ _ _ h => h.elim⟩
theorem hxSx_ok {K : PySem.W.Frag} {a : Addr} {μ : Mu} {H : Hp} : HX ie a (hxSx G K ie a μ H) := ⟨fun h => h, fun hj h => by
  show (List.set _ _ _)[ie]? = _
  rw [List.getElem?_set_ne hj]; exact h⟩
theorem cs_tryC (hC : MonoC C) {i : Nat} {pos' pos2 pos3 : Pos} (hs : X.stack = X.env :: X.outer) (hf : X.env.frame = some X.env.locals) (hN : X.N.Nodup) (hi : X.N[i]? = some y) (hy : Loc X.env.scope y) (hfy : X.fn y = true ∨ X.env.scope.names.lookup y = some .local)
    (hie : X.N[ie]? = some n) (hln : X.env.kindOf n = some .local) (hcn : Names X x cv)
    (hsw : swapsWith e (some (.Name y pos')) pos.line X.env = pure false)
    (hex : ∀ k C0, G.N.kex k = some C0 → PySem.W.exmOne X.K (.ref C0) cv = some (G.T.sub k cc))
    (he : ∀ (pn : List (Addr × Obj)) (xe : Value → Shared → Prop), CE G C none (X.tr pn xe) e m)
    (hh : ∀ (k : Nat) (C0 a : Addr) (oe : Obj) (pn : List (Addr × Obj)), G.N.kex k = some C0 → Zc (.ref C0) none oe → (∃ vs, oe.data = .fields vs) → HSs G C k ie a (X.suite a ((a, oe) :: pn)) (b₀ :: suite) hd) :
    CS G C none X (.Try [.Assign [.Name y pos'] e pos] [.ExceptHandler (some (.Name x np)) (some n) (b₀ :: suite) pos2] [] [] pos3) (.tryC (.asg i m) cc ie hd) := fun W tk xo ha => by
  have hb : ∀ (W' : WX) (pn : List (Addr × Obj)) (xe : Value → Shared → Prop), Takes (X.tr pn xe) W' → PassesOwn (model X.prog X.w) X.A X.env xe → PSs (X.tr pn xe) [.Assign [.Name y pos'] e pos] (fun D σ H => ∃ z : Sx G X.K W', LE z (mE G C none m) σ H fun v H' => D.nx (σ.set i (some v)) H') := fun W' pn xe tk' _ => by
    have h1 : PE (X.tr pn xe) e (fun σ H Q => ∃ z : Sx G X.K W', LE z (mE G C none m) σ H Q) := ⟨fun pins s σ H Q I ⟨z, q⟩ => (he pn xe W' tk' z).run pins s σ H Q I q⟩
    exact (pss_cons (ps_set (X := X.tr pn xe) hN hi hy h1 hsw hfy) pss_nil).imp fun σ H D q => q
  have hsu : ∀ (a : Addr) (oe : Obj) (cls : Value) (d : Option Addr) (pn : List (Addr × Obj)), Zc cls d oe → (∃ vs, oe.data = .fields vs) → PSs (X.suite a ((a, oe) :: pn)) (b₀ :: suite)
      (fun D σ H => ∃ (k : Nat) (C0 : Addr) (μ : Mu), cls = .ref C0 ∧ d = none ∧ G.N.kex k = some C0 ∧ LS (hxSx G X.K ie a μ H) (mCs G C (some k) hd) D σ H) := fun a oe cls d pn hz hfl => by
    refine ⟨fun pins s σ H D I ⟨k, C0, μ, e1, e2, hk, q⟩ => ?_⟩
    subst e1 e2
    exact (hh k C0 a oe pn hk hz hfl (hxSx G X.K ie a μ H) hxSx_ok).run pins s σ H D I q
  refine ⟨fun pins s σ H D I ⟨μ, S, ρ, kt, wd, q, kd⟩ => (ps_try_as hs hf hN hie hln hcn tk hb hsu).run pins s σ H D I ?_⟩
  have hlt : ie < σ.length := by rw [I.len]; exact (List.getElem?_eq_some_iff.mp hie).1
  refine ⟨⟨μ, H, fun k S1 => if G.T.sub k cc = true then wpCs G.T C (some k) hd (ρ.set ie none) S1 (hdK ie kt) (fun _ _ => False) else xo.EX k S1, fun μ' H' σ' => RE X.K μ' H' ρ σ', fun e' r => r.ext e', ?_⟩, ?_⟩
  · intro k S1 μ' H' σ' C0 hE ext rel re hk
    refine ⟨_, hex k C0 hk, fun hb1 a na => ?_, fun hb0 => ?_⟩
    · rw [if_pos hb1] at hE
      refine ⟨k, C0, μ', rfl, rfl, hk, μ', S1, ρ.set ie none, hdK ie kt, ⟨Ext.refl _ _, rel, re.cut, ?_⟩, hE, ?_⟩
      · show (σ'.set ie (some (.ref a)))[ie]? = _
        refine List.getElem?_set_self ?_
        rw [← re.len, wd.re.len]
        exact hlt
      · have tr : ∀ {μ2 : Mu} {H2 : Hp} {S2 : Sto} {σ2 : L2.St} {ρ2 : Env}, Ext μ' H' μ2 H2 → Wd (hxSx G X.K ie a μ' H') σ2 H2 μ2 S2 ρ2 → Wd xo (σ2.set ie none) H2 μ2 S2 (ρ2.set ie none) := fun e2 w2 => ⟨(wd.ext.trans ext).trans e2, w2.rel, w2.re.cut, ha _ _ _⟩
        exact ⟨fun μ2 H2 S2 σ2 ρ2 e2 w2 n2 => kd.nx μ2 H2 S2 _ _ (ext.trans e2) (tr e2 w2) n2, fun μ2 H2 S2 v d e2 r2 rd n2 => kd.rt μ2 H2 S2 v d (ext.trans e2) r2 rd n2,
          fun μ2 H2 S2 σ2 ρ2 e2 w2 n2 => kd.bk μ2 H2 S2 _ _ (ext.trans e2) (tr e2 w2) n2, fun μ2 H2 S2 σ2 ρ2 e2 w2 n2 => kd.ct μ2 H2 S2 _ _ (ext.trans e2) (tr e2 w2) n2⟩
    · rw [if_neg (by rw [hb0]; exact Bool.false_ne_true)] at hE
      exact xo.ok k S1 μ' H' σ' C0 hE (wd.ext.trans ext) rel (ha _ _ _) hk
  · refine bindW (monoE hC m) ⟨Ext.refl _ _, wd.rel, wd.re, wd.re⟩ q fun v H1 μ1 S1 d e1 w1 r1 q1 => ?_
    exact kd.nx μ1 H1 S1 _ _ e1 ⟨wd.ext.trans e1, w1.rel, w1.re.set r1, ha _ _ _⟩ q1
end

/-! ### what the text's top says of its exception classes -/
/-- a class that is raised -/
structure ExK (G : Gl) (K : PySem.W.Frag) (mg : Str → Option Value) (c : Nat) (x : Str) : Prop where
  ex : ∃ C bm B newId initId, G.N.kex c = some C ∧ mg x = some (.ref C) ∧ ExcBaseFacts B newId initId bm ∧ PySem.W.excIn K C bm newId = true ∧ PySem.W.keepIn K (.ref C) = true ∧ PySem.W.subIn K (.ref C) (.type "BaseException") = some true ∧ PySem.W.typeIn K (.ref C) = some (.type "type")
theorem cs_raise {G : Gl} {X : Cx} {hx : Option Nat} {C : Calls} {c : Nat} {x msg : Str} {j : Nat} {p pos p2 p3 : Pos} (hc : X.calm = true) (h : ExK G X.K X.mg c x) (hg : L2.Gl X x) (hdb : (x == ("__debug__" : Str)) = false) :
    CS G C hx X (.Raise (some (.Call (.Name x p) [.Constant (.str msg) j p2] [] pos)) none p3) (.rais c) := fun W tk z ha => by
  obtain ⟨Ca, bm, B, newId, initId, h1, h2, h3, h4, h5, h6, h7⟩ := h.ex
  refine (ps_raise hc tk (pmk_own h3 h4 h2 h5 (raises_own h6 h7) hg hdb)).imp fun σ H D ⟨μ, S, ρ, k, wd, q, kd⟩ => ?_
  exact z.ok c S μ H σ Ca q wd.ext wd.rel wd.p h1
theorem kit_own {K : PySem.W.Frag} {C1 C2 : Addr} {b : Bool} (h1 : PySem.W.isClsIn K C2 = true) (h2 : PySem.W.typeIn K (.ref C2) = some (.type "type")) (h3 : PySem.W.subIn K (.ref C1) (.ref C2) = some b) (h4 : PySem.W.subIn K (.ref C1) (.ref C1) = some true) : PySem.W.kitOne K (.ref C1) (.ref C2) = some b := by
  by_cases e : C1 = C2
  · subst e
    rw [h4] at h3; cases h3
    unfold PySem.W.kitOne
    rw [if_pos (beq_self_eq_true _)]
  · have e' : ((Value.ref C1 : Value) == .ref C2) = false := beq_eq_false_iff_ne.mpr fun z => e (by cases z; rfl)
    unfold PySem.W.kitOne PySem.W.kitCls
    rw [e', if_neg Bool.false_ne_true]
    show (if ((PySem.W.clsIn K C2).isSome && PySem.W.typeIn K (.ref C2) == some (.type "type")) = true then PySem.W.subIn K (.ref C1) (.ref C2) else none) = some b
    rw [show (PySem.W.clsIn K C2).isSome = true from h1, h2, if_pos (by rfl), h3]
theorem kit_val {K : PySem.W.Frag} {C1 : Addr} (h3 : PySem.W.subIn K (.ref C1) (.type "ValueError") = some true) : PySem.W.kitOne K (.ref C1) (.type "ValueError") = some true := by
  unfold PySem.W.kitOne PySem.W.kitCls
  rw [show ((Value.ref C1 : Value) == .type "ValueError") = false from rfl, if_neg Bool.false_ne_true]
  show (if PySem.W.kitMeta "ValueError" = true then PySem.W.subIn K (.ref C1) (.type "ValueError") else none) = some true
  rw [show PySem.W.kitMeta "ValueError" = true by decide +kernel, if_pos rfl, h3]
end Mp
namespace Mp
open PySem L2
section
variable {X : Cx}
/-! ### list.remove of a text -/
def rRemS : V → List V → Hp → VK → Prop := fun x xs H Q => ∃ (l : Addr) (ns : List Str) (k : Str) (j : Nat), x = .ref l ∧ xs = [.str k] ∧ H l = some (.lst (ns.map V.str)) ∧ ns[j]? = some k ∧ (∀ m : Nat, m < j → ns[m]? ≠ some k) ∧ Q .non (upd H l (.lst ((ns.eraseIdx j).map V.str)))
def eqt (k : Str) (v : Value) : Bool := match v with
  | .str n _ => n == k
  | _ => false
theorem erase_mapS : ∀ (l : List Str) (j : Nat), (l.map V.str).eraseIdx j = (l.eraseIdx j).map V.str
  | [], j => by simp
  | a :: r, 0 => by simp
  | a :: r, j + 1 => by
    have ih := erase_mapS r j
    simp [ih]
theorem mt_removeS : MtM X "list.remove" rRemS := by
  intro pins s σ H x xs v us Q I rx rxs h
  obtain ⟨l, ns, k, j, rfl, rfl, hH, hj, hno, q⟩ := h
  cases rx
  obtain ⟨u, rfl, ru⟩ := rxs.one
  obtain ⟨t, rfl⟩ := ru
  obtain ⟨z, its, n, r, hl, e⟩ := I.lstM hH
  have hi := strs_of_vals r
  have hjn : j < ns.length := (List.getElem?_eq_some_iff.mp hj).1
  rw [List.length_map] at hl z
  have hjl : j < its.toArray.size := by rw [List.size_toArray]; omega
  refine call_meets PySem.F.slot_list_remove ⟨_, e, rfl⟩ PySem.F.entry_list_remove (PySem.F.args_list_remove_2 _ _)
    (SeqAt.list_removeAt l its.toArray n none #[] (.str k t) (eqt k) j hjl ?_ ?_ (by rw [List.size_toArray]; omega)) ⟨e, ?_, ?_⟩
  · obtain ⟨tj, hjt⟩ := hi.get j k hj
    obtain ⟨h1, h2⟩ := List.getElem?_eq_some_iff.mp hjt
    have e1 : its.toArray[j] = .str k tj := by simpa using h2
    rw [e1]
    exact beq_self_eq_true k
  · intro m hm hmj
    have hmn : m < ns.length := by omega
    obtain ⟨tm, hmt⟩ := hi.get m _ (List.getElem?_eq_getElem hmn)
    obtain ⟨h1, h2⟩ := List.getElem?_eq_some_iff.mp hmt
    have e1 : its.toArray[m] = .str ns[m] tm := by simpa using h2
    rw [e1]
    refine beq_eq_false_iff_ne.mpr fun e2 => hno m hmj ?_
    rw [List.getElem?_eq_getElem hmn, e2]
  · intro y hy
    obtain ⟨m, hm, rfl⟩ := List.mem_iff_getElem.mp (show y ∈ its by simpa using hy)
    have hmn : m < ns.length := by omega
    obtain ⟨tm, hmt⟩ := hi.get m _ (List.getElem?_eq_getElem hmn)
    obtain ⟨h1, h2⟩ := List.getElem?_eq_some_iff.mp hmt
    rw [h2]
    exact SeqAt.EqAt.str_str _ _ _ _
  · have rr := r.eraseIdx j
    rw [erase_mapS] at rr
    refine ⟨.non, _, I.lset (its' := its.eraseIdx j) (t' := s.toks) hH e ?_ rr ?_, rfl, q⟩
    · show its.toArray.eraseIdxIfInBounds j = (its.eraseIdx j).toArray
      rw [List.eraseIdxIfInBounds_toArray]
    · have z2 : (ns.eraseIdx j).length ≤ ns.length := by rw [List.length_eraseIdx]; split <;> omega
      rw [List.length_map]
      omega
end
section
variable {G : Gl} {K : PySem.W.Frag} {μ μ0 : Mu} {S : Sto} {H H0 : Hp} {Q : VK}
theorem rems_ok : ∀ {ds : List D} {ss : List (List Nat)}, (ds.mapM fun d => match d with
    | .str s => some s
    | _ => none) = some ss → ds = ss.map D.str
  | [], ss, h => by rw [show ss = [] from mapM_nil h]; rfl
  | d :: ds, ss, h => by
    obtain ⟨b, bs, e1, e2, rfl⟩ := mapM_cons h
    cases d with
    | str s => cases e1; rw [rems_ok e2]; rfl
    | _ => cases e1
theorem erase_at {α : Type} [BEq α] [LawfulBEq α] {l : List α} {x : α} (h : x ∈ l) : ∃ j, l[j]? = some x ∧ (∀ m, m < j → l[m]? ≠ some x) ∧ l.erase x = l.eraseIdx j := by
  refine ⟨l.idxOf x, ?_, fun m hm e => ?_, ?_⟩
  · rw [List.getElem?_eq_getElem (List.idxOf_lt_length_of_mem h)]; simp
  · have hl : m < l.length := (List.getElem?_eq_some_iff.mp e).1
    have := List.not_of_lt_findIdx (p := (· == x)) (xs := l) hm
    rw [List.getElem?_eq_getElem hl] at e
    simp only [Option.some.injEq] at e
    rw [e] at this
    simp at this
  · exact List.erase_eq_eraseIdx_of_idxOf rfl
theorem rds_str : ∀ {ss : List (List Nat)}, (∀ p ∈ ss, Cok p) → RDs K μ H ((ss.map SX.S).map V.str) (ss.map D.str)
  | [], _ => .nil
  | a :: r, h => .cons (RD.str' (h a (by simp))) (rds_str fun p hp => h p (by simp [hp]))
theorem vm_remove : VOM G K oRemove rRemS := fun μ0 H0 μ S H x dx vs ds Q d S' e R rx rd h q => by
  unfold oRemove at h
  split at h
  · rename_i S2 r y ez
    cases ez
    split at h
    · rename_i es hs
      split at h
      · rename_i ss hss
        split at h
        · rename_i hin
          cases h
          have he := rems_ok hss
          subst he
          obtain ⟨v, rfl, h1⟩ := rd.one
          obtain ⟨p, ws, rfl, g0, g1, g2⟩ := R.lst rx hs
          have ht : txts (ss.map D.str) = some ss := by
            unfold txts; exact hss
          obtain ⟨rfl, hc⟩ := txts_ok g2 ht
          obtain ⟨j, e1, e2, e3⟩ := erase_at hin
          rw [h1.str_inv]
          refine ⟨p, ss.map SX.S, SX.S y, j, rfl, rfl, g1, by rw [List.getElem?_map, e1]; rfl, fun m hm e4 => ?_, ?_⟩
          · rw [List.getElem?_map] at e4
            obtain ⟨z, hz, ez⟩ := Option.map_eq_some_iff.mp e4
            exact e2 m hm (by rw [hz, SX.S_inj ez])
          · refine set_lst R e g0 g1 (ws := ((ss.map SX.S).eraseIdx j).map V.str) ?_ (fun _ _ _ => .non) q
            have hm : (ss.map SX.S).eraseIdx j = (ss.erase y).map SX.S := by
              rw [e3]
              have key : ∀ (l : List (List Nat)) (j : Nat), (l.map SX.S).eraseIdx j = (l.eraseIdx j).map SX.S := by
                intro l
                induction l with
                | nil => intro j; simp
                | cons a r ih =>
                  intro j
                  cases j with
                  | zero => simp
                  | succ j => simp [ih j]
              exact key ss j
            rw [hm]
            exact rds_str fun p hp => hc p (List.mem_of_mem_erase hp)
        · cases h
      · cases h
    · cases h
  · cases h
end
end Mp
/-! How clean code is run: what each operator asks and gives, loops by their invariants, stores that grow. -/
namespace Mp
open PySem

/-- old objects stay -/
def Gr (S S' : Sto) : Prop := ∀ (r : Nat) (ob : Ob), S[r]? = some ob → S'[r]? = some ob
theorem Gr.refl (S : Sto) : Gr S S := fun _ _ h => h
theorem Gr.trans {S S' S'' : Sto} (h : Gr S S') (h' : Gr S' S'') : Gr S S'' := fun r ob e => h' r ob (h r ob e)
theorem Gr.push (S T : Sto) : Gr S (S ++ T) := fun r ob e => by
  have hr : r < S.length := (List.getElem?_eq_some_iff.mp e).1
  rw [List.getElem?_append_left hr]; exact e
theorem Gr.set {S0 S : Sto} {r : Nat} {ob : Ob} (h : Gr S0 S) (hr : S0.length ≤ r) : Gr S0 (S.set r ob) := fun q o e => by
  have hq : q < S0.length := (List.getElem?_eq_some_iff.mp e).1
  rw [List.getElem?_set_ne (by omega)]; exact h q o e
theorem Gr.len {S S' : Sto} (h : Gr S S') : S.length ≤ S'.length := by
  by_cases z : S.length = 0
  · omega
  · have : S.length - 1 < S.length := by omega
    have := h (S.length - 1) _ (List.getElem?_eq_getElem this)
    have := (List.getElem?_eq_some_iff.mp this).1
    omega
theorem at_push (S : Sto) (ob : Ob) : (S ++ [ob])[S.length]? = some ob := by simp
theorem at_set {S : Sto} {r : Nat} {o ob : Ob} (h : S[r]? = some o) : (S.set r ob)[r]? = some ob := by
  have hr : r < S.length := (List.getElem?_eq_some_iff.mp h).1
  simp [hr]
theorem at_lt {S : Sto} {r : Nat} {o : Ob} (h : S[r]? = some o) : r < S.length := (List.getElem?_eq_some_iff.mp h).1

section
variable {T : Tab} {S : Sto} {Q : PQ} {i j : Int} {a b : List Nat} {x y d : D} {ds es : List D} {r q : Nat}
theorem od_ite {o : Op} {c : Prop} [Decidable c] {z : D × Sto} (h : opF T o ds S = if c then some z else none) : opD T o ds S Q = (c ∧ Q z.1 z.2) := by
  unfold opD
  rw [h]
  by_cases k : c
  · simp [k]
  · simp [k]
theorem od_some {o : Op} {z : D × Sto} (h : opF T o ds S = some z) : opD T o ds S Q = Q z.1 z.2 := by
  unfold opD; rw [h]
theorem od_addI : opD T .add [.int i, .int j] S Q = Q (.int (i + j)) S := rfl
theorem od_addS : opD T .add [.str a, .str b] S Q = (a.length + b.length ≤ LIM ∧ Q (.str (a ++ b)) S) := od_ite (z := (.str (a ++ b), S)) rfl
theorem od_sub : opD T .sub [.int i, .int j] S Q = Q (.int (i - j)) S := rfl
theorem od_mulI : opD T .mul [.int i, .int j] S Q = ((i.natAbs < 2 ^ 64 ∨ j.natAbs < 2 ^ 64) ∧ Q (.int (i * j)) S) := od_ite (z := (.int (i * j), S)) rfl
theorem od_mulS : opD T .mul [.str a, .int j] S Q = ((j.natAbs < 2 ^ 62 ∧ a.length * j.toNat ≤ LIM) ∧ Q (.str (List.replicate j.toNat a).flatten) S) := od_ite (z := (.str (List.replicate j.toNat a).flatten, S)) rfl
theorem od_div : opD T .fdiv [.int i, .int j] S Q = ((0 < j ∧ j < 1073741824) ∧ Q (.int (i / j)) S) := od_ite (z := (.int (i / j), S)) rfl
theorem od_mod : opD T .mod [.int i, .int j] S Q = (0 < j ∧ Q (.int (i % j)) S) := od_ite (z := (.int (i % j), S)) rfl
theorem od_pow : opD T .pow [.int i, .int j] S Q = ((0 ≤ j ∧ j ≤ 1000000 ∧ i.natAbs < 2 ^ 64) ∧ Q (.int (i ^ j.toNat)) S) := od_ite (z := (.int (i ^ j.toNat), S)) rfl
theorem od_neg : opD T .neg [.int i] S Q = Q (.int (-i)) S := rfl
theorem od_not {k : Bool} : opD T .bnot [.bl k] S Q = Q (.bl (!k)) S := rfl
theorem eqD_int : eqD S (.int i) (.int j) = some (decide (i = j)) := by
  unfold eqD
  simp only [pd, PyData.eqv]
  congr 1
theorem od_map {β : Type} {o : Op} {f : Option β} {g : β → D × Sto} (h : opF T o ds S = f.map g) : opD T o ds S Q = ∃ b, f = some b ∧ Q (g b).1 (g b).2 := by
  unfold opD
  rw [h]
  cases f with
  | none => simp
  | some b => simp
theorem od_eq : opD T .eq [x, y] S Q = ∃ k, eqD S x y = some k ∧ Q (.bl k) S := od_map (f := eqD S x y) (g := fun k => (.bl k, S)) rfl
theorem od_ne : opD T .ne [x, y] S Q = ∃ k, eqD S x y = some k ∧ Q (.bl (!k)) S := od_map (f := eqD S x y) (g := fun k => (.bl (!k), S)) rfl
theorem od_eqI : opD T .eq [.int i, .int j] S Q = Q (.bl (decide (i = j))) S := by rw [od_eq, eqD_int]; simp
theorem od_neI : opD T .ne [.int i, .int j] S Q = Q (.bl (!decide (i = j))) S := by rw [od_ne, eqD_int]; simp
theorem od_ltI : opD T .lt [.int i, .int j] S Q = Q (.bl (decide (i < j))) S := rfl
theorem od_le : opD T .le [.int i, .int j] S Q = Q (.bl (decide (i ≤ j))) S := rfl
theorem od_gt : opD T .gt [.int i, .int j] S Q = Q (.bl (decide (j < i))) S := rfl
theorem od_ge : opD T .ge [.int i, .int j] S Q = Q (.bl (decide (j ≤ i))) S := rfl
theorem od_isN : opD T .isN [d] S Q = Q (.bl (decide (d = .non))) S := rfl
theorem od_notN : opD T .notN [d] S Q = Q (.bl (!decide (d = .non))) S := rfl
theorem od_inS {c : Nat} : opD T .inn [.str [c], .str a] S Q = Q (.bl (decide (c ∈ a))) S := rfl
theorem od_ninS {c : Nat} : opD T .nin [.str [c], .str a] S Q = Q (.bl (!decide (c ∈ a))) S := rfl
theorem od_tup : opD T .tup ds S Q = (ds.length ≤ LIM ∧ Q (.tup ds) S) := od_ite (z := (.tup ds, S)) rfl
theorem od_lst : opD T .lst ds S Q = (ds.length ≤ LIM ∧ Q (.ref S.length) (S ++ [.lst ds])) := od_ite (z := (.ref S.length, S ++ [.lst ds])) rfl
theorem od_dnT : opD T .dnT [] S Q = Q (.ref S.length) (S ++ [.dic true false []]) := rfl
theorem op_len : opF T .len = orF oLen oLenD := rfl
theorem op_ix : opF T .ix = orF oIx oIxD := rfl
theorem op_listOf : opF T .listOf = orF oListOf oListOfD := rfl
theorem op_tupOf : opF T .tupOf = oTupOf := rfl
theorem op_append : opF T .append = oAppend := rfl
theorem op_cutH : opF T .cutH = oCutH := rfl
theorem od_lenS : opD T .len [.str a] S Q = (a.length ≤ LIM ∧ Q (.int a.length) S) := od_ite (z := (.int a.length, S)) (by
  rw [op_len]; simp only [orF, oLen, oLenD]
  split
  · rename_i r e; exact e.symm
  · rename_i e; exact e.symm)
theorem od_lenT : opD T .len [.tup ds] S Q = Q (.int ds.length) S := rfl
theorem od_lenL (h : S[r]? = some (.lst ds)) : opD T .len [.ref r] S Q = Q (.int ds.length) S := od_some (z := (.int ds.length, S)) (by
  rw [op_len]; simp [orF, oLen, seqD, lstAt, h, seqOf])
theorem od_lenD {t : Bool} {kvs : List (D × D)} (h : S[r]? = some (.dic t false kvs)) : opD T .len [.ref r] S Q = Q (.int kvs.length) S := od_some (z := (.int kvs.length, S)) (by
  rw [op_len]; simp [orF, oLen, seqD, lstAt, h, seqOf, oLenD])
theorem od_lenQ : opD T .len [.lis ds] S Q = Q (.int ds.length) S := rfl
theorem or_none {f g : OpF} {e : List D} {z : Option (D × Sto)} (h : g e S = none) (k : f e S = z) : orF f g e S = z := by
  unfold orF; rw [k, h]; cases z <;> rfl
theorem od_ixS (h : a.length ≤ LIM) : opD T .ix [.str a, .int i] S Q = ∃ c, L2.atI a i = some c ∧ Q (.str [c]) S := od_map (f := L2.atI a i) (g := fun c => (.str [c], S)) (by
  rw [op_ix]; exact or_none rfl (by simp [oIx, h]))
theorem od_ixT : opD T .ix [.tup ds, .int i] S Q = ∃ d, L2.atI ds i = some d ∧ Q d S := od_map (f := L2.atI ds i) (g := fun c => (c, S)) (by
  rw [op_ix]; exact or_none rfl rfl)
theorem od_ixL (h : S[r]? = some (.lst ds)) : opD T .ix [.ref r, .int i] S Q = ∃ d, L2.atI ds i = some d ∧ Q d S := od_map (f := L2.atI ds i) (g := fun c => (c, S)) (by
  rw [op_ix]; exact or_none (by simp [oIxD, h]) (by simp [oIx, seqD, lstAt, h, seqOf]))
theorem od_ixQ : opD T .ix [.lis ds, .int i] S Q = ∃ d, L2.atI ds i = some d ∧ Q d S := od_map (f := L2.atI ds i) (g := fun c => (c, S)) (by
  rw [op_ix]; exact or_none rfl rfl)
theorem od_ixD {t lk : Bool} {kvs : List (D × D)} (h : S[r]? = some (.dic t lk kvs)) (hk : keyOk t x = true) : opD T .ix [.ref r, x] S Q = ∃ d, look kvs x = some d ∧ Q d S := od_map (f := look kvs x) (g := fun c => (c, S)) (by
  rw [op_ix]
  have e : oIx [.ref r, x] S = none := by
    cases x <;> simp [oIx, seqD, lstAt, h, seqOf]
  unfold orF; rw [e]; simp [oIxD, h, hk])
theorem od_isi {c : Cl} : opD T (.isi [c]) [d] S Q = ∃ k, clsOf T S d c = some k ∧ Q (.bl k) S := od_map (f := clsOf T S d c) (g := fun k => (.bl k, S)) rfl
theorem od_append (h : S[r]? = some (.lst ds)) : opD T .append [.ref r, d] S Q = (ds.length < LIM ∧ Q .non (S.set r (.lst (ds ++ [d])))) := od_ite (z := (.non, S.set r (.lst (ds ++ [d])))) (by
  rw [op_append]; simp only [oAppend, h])
theorem od_min : opD T .min2 [.int i, .int j] S Q = Q (.int (if j < i then j else i)) S := rfl
theorem od_int1 : opD T .int [.int i] S Q = Q (.int i) S := rfl
theorem od_intB {k : Bool} : opD T .int [.bl k] S Q = Q (.int (if k then 1 else 0)) S := rfl
theorem od_listT : opD T .listOf [.tup ds] S Q = Q (.ref S.length) (S ++ [.lst ds]) := rfl
theorem od_listL (h : S[r]? = some (.lst ds)) : opD T .listOf [.ref r] S Q = Q (.ref S.length) (S ++ [.lst ds]) := od_some (z := (.ref S.length, S ++ [.lst ds])) (by
  rw [op_listOf]; simp [orF, oListOf, seqD, lstAt, h, seqOf])
theorem od_tupT : opD T .tupOf [.tup ds] S Q = Q (.tup ds) S := rfl
theorem od_tupL (h : S[r]? = some (.lst ds)) : opD T .tupOf [.ref r] S Q = Q (.tup ds) S := od_some (z := (.tup ds, S)) (by
  rw [op_tupOf]; simp [oTupOf, seqD, lstAt, h, seqOf])
theorem take_clip : ds.take (clip j ds.length) = ds.take j.toNat := by
  unfold clip
  rw [Nat.min_def]
  split
  · rfl
  · rw [List.take_length, List.take_of_length_le (by omega)]
theorem od_cutHQ : opD T .cutH [.lis ds, .int j] S Q = (0 ≤ j ∧ Q (.ref S.length) (S ++ [.lst (ds.take j.toNat)])) := od_ite (z := (.ref S.length, S ++ [.lst (ds.take j.toNat)])) (by
  rw [op_cutH]; simp [oCutH, cutF, seqD, take_clip])
theorem od_cutHL (h : S[r]? = some (.lst ds)) : opD T .cutH [.ref r, .int j] S Q = (0 ≤ j ∧ Q (.ref S.length) (S ++ [.lst (ds.take j.toNat)])) := od_ite (z := (.ref S.length, S ++ [.lst (ds.take j.toNat)])) (by
  rw [op_cutH]; simp [oCutH, cutF, seqD, lstAt, h, seqOf, take_clip])
theorem ixN_nn {n : Nat} {i : Int} (h0 : 0 ≤ i) (h : i < n) : L2.ixN n i = some i.toNat := by
  unfold L2.ixN; rw [if_pos h0, if_pos h]
theorem atI_nn {α : Type} {xs : List α} {i : Int} (h0 : 0 ≤ i) (h : i < xs.length) : L2.atI xs i = some (xs[i.toNat]'(by omega)) := by
  unfold L2.atI
  rw [ixN_nn h0 h]
  exact List.getElem?_eq_getElem (by omega)
theorem atI_k {α : Type} {xs : List α} {k : Nat} {x : α} (h : xs[k]? = some x) : L2.atI xs (k : Int) = some x := by
  have := (List.getElem?_eq_some_iff.mp h).1
  unfold L2.atI
  rw [ixN_nn (by omega) (by omega)]
  simpa using h
end
section
variable {T : Tab} {S : Sto} {Q : PQ} {i j : Int} {a b : List Nat} {x y d v : D} {ds es : List D} {r q : Nat}
theorem txts_map : ∀ ps : List (List Nat), txts (ps.map .str) = some ps
  | [] => rfl
  | p :: ps => by
    have := txts_map ps
    unfold txts at this ⊢
    rw [List.map_cons, List.mapM_cons, this]; rfl
theorem op_join : opF T .join = oJoin := rfl
theorem od_joinL {ps : List (List Nat)} (h : S[r]? = some (.lst (ps.map .str))) : opD T .join [.str a, .ref r] S Q = ((ps.map (·.length)).sum + ps.length * a.length ≤ LIM ∧ Q (.str (TL.joinL a ps)) S) := od_ite (z := (.str (TL.joinL a ps), S)) (by
  rw [op_join]; simp [oJoin, joinF, seqD, lstAt, h, seqOf, txts_map])
theorem od_joinT {ps : List (List Nat)} : opD T .join [.str a, .tup (ps.map .str)] S Q = ((ps.map (·.length)).sum + ps.length * a.length ≤ LIM ∧ Q (.str (TL.joinL a ps)) S) := od_ite (z := (.str (TL.joinL a ps), S)) (by
  rw [op_join]; simp [oJoin, joinF, txts_map])
theorem tk_append (h : S[r]? = some (.lst ds)) : tyOk .append S (.ref r) = true := by simp [tyOk, lstAt, h, seqOf]
theorem tk_clear (h : S[r]? = some (.lst ds)) : tyOk .clear S (.ref r) = true := by simp [tyOk, lstAt, h, seqOf]
theorem tk_insert (h : S[r]? = some (.lst ds)) : tyOk .insert S (.ref r) = true := by simp [tyOk, lstAt, h, seqOf]
theorem tk_remove (h : S[r]? = some (.lst ds)) : tyOk .remove S (.ref r) = true := by simp [tyOk, lstAt, h, seqOf]
theorem tk_join : tyOk .join S (.str a) = true := rfl
theorem tk_get {t lk : Bool} {kvs : List (D × D)} (h : S[r]? = some (.dic t lk kvs)) : tyOk .get2 S (.ref r) = true := by simp [tyOk, h]
theorem setW_lst {Q : Sto → Prop} (h : S[r]? = some (.lst ds)) (h0 : 0 ≤ i) (h1 : i < ds.length) : setW (.ref r) (.int i) v S Q = Q (S.set r (.lst (ds.set i.toNat v))) := by
  unfold setW; simp only [h, ixN_nn h0 h1]
theorem setW_dic {t : Bool} {kvs : List (D × D)} {Q : Sto → Prop} (h : S[r]? = some (.dic t false kvs)) : setW (.ref r) y v S Q = (keyOk t y = true ∧ kvs.length < LIM ∧ Q (S.set r (.dic t false (put kvs y v)))) := by
  unfold setW; simp only [h]
theorem joinL_one : ∀ l : List Nat, TL.joinL [] (l.map fun c => [c]) = l
  | [] => rfl
  | [c] => rfl
  | c :: e :: l => by
    have := joinL_one (e :: l)
    simp only [List.map_cons] at this ⊢
    rw [TL.joinL, this]; rfl
theorem op_clear : opF T .clear = oClear := rfl
theorem od_clear (h : S[r]? = some (.lst ds)) : opD T .clear [.ref r] S Q = Q .non (S.set r (.lst [])) := od_some (z := (.non, S.set r (.lst []))) (by
  rw [op_clear]; simp [oClear, h])
theorem op_get2 : opF T .get2 = oGet2 := rfl
theorem od_get2 {t lk : Bool} {kvs : List (D × D)} (h : S[r]? = some (.dic t lk kvs)) (hk : keyOk t x = true) : opD T .get2 [.ref r, x, d] S Q = Q ((look kvs x).getD d) S := od_some (z := ((look kvs x).getD d, S)) (by
  rw [op_get2]; simp [oGet2, h, hk])
theorem wk_str : wkOf S (.str a) = some ⟨a.map fun c => .str [c], fun _ => True⟩ := rfl
theorem wk_tup : wkOf S (.tup ds) = some ⟨ds, fun _ => True⟩ := rfl
theorem wk_lis : wkOf S (.lis ds) = some ⟨ds, fun S' => seqD S' (.lis ds) = some ds⟩ := rfl
theorem wk_lst (h : S[r]? = some (.lst ds)) : wkOf S (.ref r) = some ⟨ds, fun S' => seqD S' (.ref r) = some ds⟩ := by
  show (seqD S (.ref r)).map _ = _
  simp only [seqD, lstAt, h, seqOf, Option.bind_some, Option.map_some]
theorem sq_lst (h : S[r]? = some (.lst ds)) : seqD S (.ref r) = some ds := by
  simp only [seqD, lstAt, h, seqOf, Option.bind_some]
end
section
variable {T : Tab} {S : Sto} {Q : PQ} {i j : Int} {a b : List Nat} {x y d v : D} {ds es : List D} {r q : Nat} {k : Bool}
theorem op_inn : opF T .inn = orF (oInStr false) (orF (oInSeq false) (oInDic false)) := rfl
theorem op_nin : opF T .nin = orF (oInStr true) (orF (oInSeq true) (oInDic true)) := rfl
theorem inStr_ref {neg : Bool} : oInStr neg [d, .ref r] S = none := by
  unfold oInStr; split
  · rename_i e; cases e
  · rfl
theorem od_inL (h : S[r]? = some (.lst ds)) (hk : inD S d ds = some k) : opD T .inn [d, .ref r] S Q = Q (.bl k) S := od_some (z := (.bl k, S)) (by
  rw [op_inn]; unfold orF; rw [inStr_ref]; simp [oInSeq, sq_lst h, hk])
theorem od_ninL (h : S[r]? = some (.lst ds)) (hk : inD S d ds = some k) : opD T .nin [d, .ref r] S Q = Q (.bl (!k)) S := od_some (z := (.bl (!k), S)) (by
  rw [op_nin]; unfold orF; rw [inStr_ref]; simp [oInSeq, sq_lst h, hk])
theorem op_lt : opF T .lt = orF (oCmp fun i j => decide (i < j)) oLtT := rfl
theorem od_ltT {p t : List (List Nat)} (h1 : strsOf (.tup ds) = some p) (h2 : strsOf (.tup es) = some t) : opD T .lt [.tup ds, .tup es] S Q = Q (.bl (lexL p t)) S := od_some (z := (.bl (lexL p t), S)) (by
  rw [op_lt]; unfold orF; simp [oCmp, oLtT, h1, h2])
theorem strs_of (p : List (List Nat)) : strsOf (.tup (p.map .str)) = some p := txts_map p
theorem atI_last {α : Type} {xs : List α} {x : α} : L2.atI (xs ++ [x]) (-1) = some x := by
  unfold L2.atI L2.ixN
  have h1 : ¬ (0 : Int) ≤ -1 := by decide
  rw [if_neg h1, if_pos (by simp; omega)]
  simp only [Option.bind_some]
  have : (-1 + ((xs ++ [x]).length : Int)).toNat = xs.length := by simp; omega
  rw [this]; simp
/-- a comprehension that reads -/
theorem compN_fun (f : D → D) {r : Nat} {stand : Sto → Prop} {turn : D → Sto → (Option D → Sto → Prop) → Prop} {k : Sto → Prop} {S0 : Sto} (hr : S0.length ≤ r) (hst : ∀ S, Gr S0 S → stand S) :
    ∀ (items acc : List D) (S : Sto), (∀ x ∈ items, ∀ S kk, Gr S0 S → kk (some (f x)) S → turn x S kk) → Gr S0 S → S[r]? = some (.lst acc) → acc.length + items.length ≤ 1000 →
    (∀ S, Gr S0 S → S[r]? = some (.lst (acc ++ items.map f)) → k S) → compN r stand turn k items acc S
  | [], acc, S, ht, g, h, hl, hk => ⟨hst S g, h, hk S g (by simpa using h)⟩
  | x :: xs, acc, S, ht, g, h, hl, hk => by
    simp only [List.length_cons] at hl
    refine ⟨hst S g, h, ht x (by simp) S _ g ⟨h, by show acc.length < 16777216; omega, ?_⟩⟩
    refine compN_fun f hr hst xs (acc ++ [f x]) _ (fun y hy => ht y (by simp [hy])) (g.set hr) (at_set h) (by simp; omega) fun S' g' h' => hk S' g' ?_
    rw [h']; simp
theorem mem_rng {i c : Int} {n : Nat} {x : D} (h : x ∈ rngItems i c n) : ∃ k : Nat, k < n ∧ x = .int (i + k * c) := by
  unfold rngItems at h
  obtain ⟨k, hk, rfl⟩ := List.mem_map.mp h
  exact ⟨k, by simpa using hk, rfl⟩
end
/-! ### loops -/
section
variable {T : Tab} {C : Calls} {hx : Option Nat}
/-- a walk by its invariant -/
theorem foN_inv {asg : D → Env → Option Env} {stand : Sto → Prop} {wb : Env → Sto → Kt → Prop} {K : Kt} (hm : ∀ ρ S K K', Kt.Le K K' → wb ρ S K → wb ρ S K') (I : List D → Env → Sto → Prop)
    (step : ∀ x xs ρ S, I (x :: xs) ρ S → stand S ∧ ∃ ρ', asg x ρ = some ρ' ∧ wb ρ' S { nx := I xs, rt := K.rt, bk := K.nx, ct := I xs })
    (fin : ∀ ρ S, I [] ρ S → stand S ∧ K.nx ρ S) : ∀ (items : List D) (ρ : Env) (S : Sto), I items ρ S → foN asg stand wb K items ρ S
  | [], ρ, S, h => fin ρ S h
  | x :: xs, ρ, S, h => by
    obtain ⟨h1, ρ', h2, h3⟩ := step x xs ρ S h
    refine ⟨h1, ?_⟩
    rw [h2]
    refine hm _ _ _ _ ?_ h3
    exact ⟨fun ρ S h => foN_inv hm I step fin xs ρ S h, fun _ _ h => h, fun _ _ h => h, fun ρ S h => foN_inv hm I step fin xs ρ S h⟩
theorem whN_inv {wt : Env → Sto → (Bool → Sto → Prop) → Prop} {wb : Env → Sto → Kt → Prop} {K : Kt} (ht : ∀ ρ S (q q' : Bool → Sto → Prop), (∀ b S', q b S' → q' b S') → wt ρ S q → wt ρ S q') (hm : ∀ ρ S K K', Kt.Le K K' → wb ρ S K → wb ρ S K') (I : Nat → Env → Sto → Prop)
    (step : ∀ n ρ S, I n ρ S → wt ρ S fun b S1 => if b = true then 0 < n ∧ wb ρ S1 { nx := I (n - 1), rt := K.rt, bk := K.nx, ct := I (n - 1) } else K.nx ρ S1) : ∀ (n : Nat) (ρ : Env) (S : Sto), I n ρ S → whN wt wb K (n + 1) ρ S := by
  intro n
  induction n with
  | zero =>
    intro ρ S h
    refine ht _ _ _ _ (fun b S1 q => ?_) (step 0 ρ S h)
    cases b with
    | true => rw [if_pos rfl] at q; omega
    | false => exact q
  | succ n ih =>
    intro ρ S h
    refine ht _ _ _ _ (fun b S1 q => ?_) (step (n + 1) ρ S h)
    cases b with
    | true =>
      rw [if_pos rfl] at q ⊢
      refine hm _ _ _ _ ?_ q.2
      exact ⟨fun ρ S h => ih ρ S h, fun _ _ h => h, fun _ _ h => h, fun ρ S h => ih ρ S h⟩
    | false => exact q
theorem monoB (hC : MonoC C) (cs : Cms) (EX : PX) : ∀ ρ S K K', Kt.Le K K' → wpCs T C hx cs ρ S K EX → wpCs T C hx cs ρ S K' EX := fun ρ S K K' hK h => wpCs_mono hC cs ρ S K K' EX EX hK (fun _ _ z => z) h
/-- a walk by an invariant that counts the turns (no break, no continue) -/
theorem foN_ix {asg : D → Env → Option Env} {stand : Sto → Prop} {wb : Env → Sto → Kt → Prop} {K : Kt} {items : List D} (P : Nat → Env → Sto → Prop) (hst : ∀ j ρ S, P j ρ S → stand S)
    (step : ∀ j x ρ S (K' : Kt), items[j]? = some x → P j ρ S → (∀ ρ' S', P (j + 1) ρ' S' → K'.nx ρ' S') → K'.rt = K.rt → ∃ ρ', asg x ρ = some ρ' ∧ wb ρ' S K') (fin : ∀ ρ S, P items.length ρ S → K.nx ρ S) (ρ : Env) (S : Sto) (h : P 0 ρ S) : foN asg stand wb K items ρ S := by
  have go : ∀ (rest : List D) (j : Nat) (ρ : Env) (S : Sto), items.drop j = rest → j ≤ items.length → P j ρ S → foN asg stand wb K rest ρ S := by
    intro rest
    induction rest with
    | nil =>
      intro j ρ S e hj h
      have : j = items.length := by
        have := congrArg List.length e
        simp at this; omega
      subst this
      exact ⟨hst _ _ _ h, fin _ _ h⟩
    | cons x xs ih =>
      intro j ρ S e hj h
      have hlt : j < items.length := by
        rcases Nat.lt_or_ge j items.length with z | z
        · exact z
        · rw [List.drop_eq_nil_of_le z] at e; cases e
      have e2 := List.drop_eq_getElem_cons hlt
      rw [e] at e2
      injection e2 with e3 e4
      obtain ⟨ρ', a1, a2⟩ := step j x ρ S { nx := foN asg stand wb K xs, rt := K.rt, bk := K.nx, ct := foN asg stand wb K xs } (by rw [e3]; exact List.getElem?_eq_getElem hlt) h (fun ρ' S' h' => ih (j + 1) ρ' S' e4.symm hlt h') rfl
      refine ⟨hst _ _ _ h, ?_⟩
      rw [a1]; exact a2
  exact go items 0 ρ S rfl (Nat.zero_le _) h
theorem rng_get {i c : Int} {n j : Nat} {x : D} (h : (rngItems i c n)[j]? = some x) : j < n ∧ x = .int (i + (j : Nat) * c) := by
  have hj : j < n := by
    have := (List.getElem?_eq_some_iff.mp h).1
    simpa [rngItems] using this
  refine ⟨hj, ?_⟩
  unfold rngItems at h
  rw [List.getElem?_map, List.getElem?_range hj] at h
  exact (Option.some.inj h).symm
end
end Mp
/-! More of the same: lists of texts, dicts that are walked. -/
namespace Mp
open PySem
theorem Gr.unlock {S S' : Sto} {rd : Nat} {o l : Ob} (h : S[rd]? = some o) (g : Gr (S.set rd l) S') : Gr S (S'.set rd o) := fun q ob e => by
  have hl := at_lt h
  by_cases hq : q = rd
  · subst hq
    rw [h] at e; cases e
    exact at_set (g _ _ (at_set h))
  · rw [List.getElem?_set_ne (Ne.symm hq)]
    exact g _ _ (by rw [List.getElem?_set_ne (Ne.symm hq)]; exact e)
section
variable {T : Tab} {S : Sto} {Q : PQ} {i j : Int} {a b : List Nat} {x y d v : D} {ds es : List D} {r q : Nat} {k : Bool} {ss : List (List Nat)}
theorem pd_strs1 {n : Nat} : ∀ ss : List (List Nat), (ss.map D.str).mapM (pd S (n + 1)) = some (ss.map sD)
  | [] => rfl
  | s :: ss => by rw [List.map_cons, List.mapM_cons, pd_strs1 ss]; rfl
theorem in_str (a : List Nat) (ss : List (List Nat)) : inD S (.str a) (ss.map .str) = some (decide (a ∈ ss)) := by
  unfold inD
  rw [show pd S 12 (.str a) = some (sD a) from rfl, pd_strs1 (n := 11)]
  simp only
  congr 1
  induction ss with
  | nil => simp
  | cons s ss ih =>
    rw [List.map_cons, List.any_cons, ih, eqv_str]
    by_cases h : s = a
    · subst h; simp
    · have : ¬ a = s := fun z => h z.symm
      simp [h, this]
theorem eqvAll_sD : ∀ a b : List (List Nat), PyData.eqvAll (a.map sD) (b.map sD) = decide (a = b)
  | [], [] => by simp [PyData.eqvAll]
  | [], b :: t => by simp [PyData.eqvAll]
  | a :: r, [] => by simp [PyData.eqvAll]
  | a :: r, b :: t => by
    rw [List.map_cons, List.map_cons, PyData.eqvAll, eqv_str, eqvAll_sD r t]
    by_cases h : a = b <;> by_cases h2 : r = t <;> simp [h, h2]
theorem pd_lst (h : S[r]? = some (.lst (ss.map .str))) : pd S 12 (.ref r) = some (.list (ss.map sD)) := by
  rw [pd]
  simp only [lstAt, h, seqOf, Option.bind_some]
  rw [pd_strs1 (n := 10)]; rfl
theorem eq_strs {t : List (List Nat)} (h1 : S[r]? = some (.lst (ss.map .str))) (h2 : S[q]? = some (.lst (t.map .str))) : eqD S (.ref r) (.ref q) = some (decide (ss = t)) := by
  unfold eqD
  rw [pd_lst h1, pd_lst h2]
  simp only
  rw [PyData.eqv, eqvAll_sD]
theorem idx_sD (a : List Nat) : ∀ ss : List (List Nat), (ss.map sD).findIdx (fun z => PyData.eqv z (sD a)) = ss.idxOf a
  | [] => rfl
  | s :: ss => by
    rw [List.map_cons, List.findIdx_cons, List.idxOf_cons, eqv_str, idx_sD a ss]
    by_cases h : s = a
    · subst h; simp
    · have : (s == a) = false := by simpa using h
      simp [h, this]
theorem op_index : opF T .index = oIndex := rfl
theorem od_index (h : S[r]? = some (.lst (ss.map .str))) (ha : a ∈ ss) : opD T .index [.ref r, .str a] S Q = Q (.int (ss.idxOf a : Nat)) S := od_some (z := (.int (ss.idxOf a : Nat), S)) (by
  rw [op_index]
  have e : placeD S (.str a) (ss.map .str) = some (ss.idxOf a) := by
    unfold placeD
    rw [show pd S 12 (.str a) = some (sD a) from rfl, pd_strs1 (n := 11)]
    simp only [idx_sD, List.length_map]
    rw [if_pos (List.idxOf_lt_length_of_mem ha)]
  simp only [oIndex, sq_lst h, e, Option.map_some])
theorem tk_index (h : S[r]? = some (.lst ds)) : tyOk .index S (.ref r) = true := by simp [tyOk, sq_lst h]
theorem op_cutL : opF T .cutL = oCutL := rfl
theorem od_cutLL (h : S[r]? = some (.lst ds)) : opD T .cutL [.ref r, .int i] S Q = (0 ≤ i ∧ Q (.ref S.length) (S ++ [.lst (ds.drop i.toNat)])) := od_ite (z := (.ref S.length, S ++ [.lst (ds.drop i.toNat)])) (by
  rw [op_cutL]
  have e : (ds.drop (clip i ds.length)).take (ds.length - clip i ds.length) = ds.drop i.toNat := by
    unfold clip
    rw [Nat.min_def]
    split
    · rw [List.take_of_length_le (by simp)]
    · rw [List.drop_length, List.drop_of_length_le (by omega)]; simp
  simp [oCutL, cutF, sq_lst h, e])
theorem op_revL : opF T .revL = oRevL := rfl
theorem od_revLL (h : S[r]? = some (.lst ds)) : opD T .revL [.ref r] S Q = Q (.ref S.length) (S ++ [.lst ds.reverse]) := od_some (z := (.ref S.length, S ++ [.lst ds.reverse])) (by
  rw [op_revL]; simp [oRevL, sq_lst h])
theorem op_cutB : opF T .cutB = oCutB := rfl
theorem od_cutBQ : opD T .cutB [.lis ds, .int i, .int j] S Q = ((0 ≤ i ∧ 0 ≤ j) ∧ Q (.ref S.length) (S ++ [.lst ((ds.drop (clip i ds.length)).take (clip j ds.length - clip i ds.length))])) := od_ite (z := (.ref S.length, S ++ [.lst ((ds.drop (clip i ds.length)).take (clip j ds.length - clip i ds.length))])) (by
  rw [op_cutB]; simp [oCutB, cutF, seqD])
theorem sq_dic {t lk : Bool} {kvs : List (D × D)} (h : S[r]? = some (.dic t lk kvs)) : seqD S (.ref r) = none := by simp [seqD, lstAt, h, seqOf]
theorem od_ninD {t lk : Bool} {kvs : List (D × D)} (h : S[r]? = some (.dic t lk kvs)) (hk : keyOk t x = true) : opD T .nin [x, .ref r] S Q = Q (.bl (!(look kvs x).isSome)) S := od_some (z := (.bl (!(look kvs x).isSome), S)) (by
  rw [op_nin]; unfold orF; rw [inStr_ref]; simp [oInSeq, sq_dic h, oInDic, h, hk])
theorem od_disp1 (h : (key1 x).isSome = true) : opD T .disp1 [x, v] S Q = Q (.ref S.length) (S ++ [.dic false false [(x, v)]]) := od_some (z := (.ref S.length, S ++ [.dic false false [(x, v)]])) (by
  show oDisp [x, v] S = _
  simp [oDisp, h])
theorem dicAt_of {t : Bool} {kvs : List (D × D)} (h : S[r]? = some (.dic t false kvs)) : dicAt S (.ref r) = some (r, t, kvs) := by
  unfold dicAt; simp only [h]
/-- a comprehension that picks -/
theorem compN_filter (p : D → Bool) {r : Nat} {stand : Sto → Prop} {turn : D → Sto → (Option D → Sto → Prop) → Prop} {k : Sto → Prop} {S0 : Sto} (hr : S0.length ≤ r) (hst : ∀ S, Gr S0 S → stand S) :
    ∀ (items acc : List D) (S : Sto), (∀ x ∈ items, ∀ S kk, Gr S0 S → (if p x = true then kk (some x) S else kk none S) → turn x S kk) → Gr S0 S → S[r]? = some (.lst acc) → acc.length + items.length ≤ 1000 →
    (∀ S, Gr S0 S → S[r]? = some (.lst (acc ++ items.filter p)) → k S) → compN r stand turn k items acc S
  | [], acc, S, ht, g, h, hl, hk => ⟨hst S g, h, hk S g (by simpa using h)⟩
  | x :: xs, acc, S, ht, g, h, hl, hk => by
    simp only [List.length_cons] at hl
    refine ⟨hst S g, h, ht x (by simp) S _ g ?_⟩
    by_cases hp : p x = true
    · rw [if_pos hp]
      refine ⟨h, by show acc.length < 16777216; omega, ?_⟩
      refine compN_filter p hr hst xs (acc ++ [x]) _ (fun y hy => ht y (by simp [hy])) (g.set hr) (at_set h) (by simp; omega) fun S' g' h' => hk S' g' ?_
      rw [h']; simp [hp]
    · rw [if_neg hp]
      refine compN_filter p hr hst xs acc S (fun y hy => ht y (by simp [hy])) g h (by omega) fun S' g' h' => hk S' g' ?_
      rw [h']; simp [hp]
/-- distinct items of a list are not more than it has -/
theorem nodup_le {α : Type} [DecidableEq α] : ∀ {xs ys : List α}, xs.Nodup → (∀ x ∈ xs, x ∈ ys) → xs.length ≤ ys.length
  | [], ys, _, _ => Nat.zero_le _
  | x :: xs, ys, nd, h => by
    have hx := h x (by simp)
    have := nodup_le (xs := xs) (ys := ys.erase x) (List.nodup_cons.mp nd).2 fun y hy => by
      have : y ≠ x := fun e => (List.nodup_cons.mp nd).1 (e ▸ hy)
      exact (List.mem_erase_of_ne this).mpr (h y (by simp [hy]))
    rw [List.length_erase_of_mem hx] at this
    have := List.length_pos_of_mem hx
    simp; omega
end
end Mp
/-! The clean text of law k12. -/
namespace Lk12
open PySem Mp
def s0 : List Nat := [97, 98, 99, 100, 101, 102, 103, 104, 105, 106, 107, 108, 109, 110, 111, 112, 113, 114, 115, 116, 117, 118, 119, 120, 121, 122]
def s1 : List Nat := [115, 112, 111, 105, 108, 116]
/-- copied(rows): 0 rows 1 out 2 shelf -/
def b_copied : Cms := (.cons (.asg 1 (.op .dnT .nil)) (.cons (.forV 2 0 (.cons (.setX (.var 1) (.var 2) (.op .listOf (.cons (.op .ix (.cons (.var 0) (.cons (.var 2) .nil))) .nil))) .nil)) (.cons (.ret (.var 1)) .nil)))
/-- put_to(rows, shelf, name, place): 0 rows 1 shelf 2 name 3 place 4 row 5 others 6 out 7 one -/
def b_put_to : Cms := (.cons (.asg 4 (.bm .get2 (.var 0) (.cons (.var 1) (.cons (.op .lst .nil) .nil)))) (.cons (.ite (.op .nin (.cons (.var 2) (.cons (.var 4) .nil))) (.cons (.rais 4) .nil) .nil) (.cons (.asg 5 (.compIf (.var 7) 7 (.seq (.var 4)) (.op .ne (.cons (.var 7) (.cons (.var 2) .nil))))) (.cons (.asg 3 (.op .min2 (.cons (.var 3) (.cons (.op .len (.cons (.var 5) .nil)) .nil)))) (.cons (.asg 6 (.call 0 (.cons (.var 0) .nil))) (.cons (.setX (.var 6) (.var 1) (.op .add (.cons (.op .add (.cons (.op .cutH (.cons (.var 5) (.cons (.var 3) .nil))) (.cons (.op .lst (.cons (.var 2) .nil)) .nil))) (.cons (.op .cutL (.cons (.var 5) (.cons (.var 3) .nil))) .nil)))) (.cons (.ret (.var 6)) .nil)))))))
/-- _law_cell_at(script, k): 0 script 1 k -/
def b__law_cell_at : Cms := (.cons (.ite (.op .lt (.cons (.var 1) (.cons (.op .len (.cons (.var 0) .nil)) .nil))) (.cons (.ret (.op .ix (.cons (.var 0) (.cons (.var 1) .nil)))) .nil) .nil) (.cons (.ret (.cst (.int 0))) .nil))
/-- _law_names(cell, many): 0 cell 1 many 2 letters 3 mixed 4 size 5 spot 6 filler 7 begin 8 steps 9 step 10 names 11 k 12 sign 13 more -/
def b__law_names : Cms := (.cons (.asg 2 (.cst (.str s0))) (.cons (.asg 3 (.op .mod (.cons (.op .mul (.cons (.var 0) (.cons (.cst (.int 48271)) .nil))) (.cons (.cst (.int 2147483647)) .nil)))) (.cons (.asg 4 (.op .add (.cons (.cst (.int 1)) (.cons (.op .mod (.cons (.var 3) (.cons (.cst (.int 8)) .nil))) .nil)))) (.cons (.asg 5 (.op .mod (.cons (.op .fdiv (.cons (.var 3) (.cons (.cst (.int 8)) .nil))) (.cons (.var 4) .nil)))) (.cons (.asg 6 (.op .ix (.cons (.var 2) (.cons (.op .mod (.cons (.op .fdiv (.cons (.var 3) (.cons (.cst (.int 64)) .nil))) (.cons (.cst (.int 26)) .nil))) .nil)))) (.cons (.asg 7 (.op .mod (.cons (.op .fdiv (.cons (.var 3) (.cons (.cst (.int 1664)) .nil))) (.cons (.cst (.int 26)) .nil)))) (.cons (.asg 8 (.op .lst (.cons (.cst (.int 1)) (.cons (.cst (.int 3)) (.cons (.cst (.int 5)) (.cons (.cst (.int 7)) (.cons (.cst (.int 9)) (.cons (.cst (.int 11)) (.cons (.cst (.int 15)) (.cons (.cst (.int 17)) (.cons (.cst (.int 19)) (.cons (.cst (.int 21)) (.cons (.cst (.int 23)) (.cons (.cst (.int 25)) .nil)))))))))))))) (.cons (.asg 9 (.op .ix (.cons (.var 8) (.cons (.op .mod (.cons (.op .fdiv (.cons (.var 3) (.cons (.cst (.int 43264)) .nil))) (.cons (.cst (.int 12)) .nil))) .nil)))) (.cons (.asg 10 (.op .lst .nil)) (.cons (.for1 11 (.rng1 (.var 1)) (.cons (.asg 12 (.op .ix (.cons (.var 2) (.cons (.op .mod (.cons (.op .add (.cons (.var 7) (.cons (.op .mul (.cons (.var 9) (.cons (.var 11) .nil))) .nil))) (.cons (.cst (.int 26)) .nil))) .nil)))) (.cons (.asg 13 (.op .add (.cons (.op .sub (.cons (.op .sub (.cons (.var 4) (.cons (.cst (.int 1)) .nil))) (.cons (.var 5) .nil))) (.cons (.op .mul (.cons (.op .mod (.cons (.var 11) (.cons (.cst (.int 2)) .nil))) (.cons (.op .int (.cons (.op .lt (.cons (.var 4) (.cons (.cst (.int 8)) .nil))) .nil)) .nil))) .nil)))) (.cons (.ex (.bm .append (.var 10) (.cons (.op .add (.cons (.op .add (.cons (.op .mul (.cons (.var 6) (.cons (.var 5) .nil))) (.cons (.var 12) .nil))) (.cons (.op .mul (.cons (.var 6) (.cons (.var 13) .nil))) .nil))) .nil))) .nil)))) (.cons (.ite (.and (.op .eq (.cons (.op .mod (.cons (.op .fdiv (.cons (.var 3) (.cons (.cst (.int 519168)) .nil))) (.cons (.cst (.int 3)) .nil))) (.cons (.cst (.int 1)) .nil))) (.op .le (.cons (.var 1) (.cons (.cst (.int 8)) .nil)))) (.cons (.asg 10 (.comp (.op .mul (.cons (.var 6) (.cons (.op .add (.cons (.var 11) (.cons (.cst (.int 1)) .nil))) .nil))) 11 (.rng1 (.var 1)))) .nil) .nil) (.cons (.ret (.var 10)) .nil))))))))))))
/-- _law_copy(rows): 0 rows 1 out 2 shelf -/
def b__law_copy : Cms := (.cons (.asg 1 (.op .dnT .nil)) (.cons (.forV 2 0 (.cons (.setX (.var 1) (.var 2) (.op .listOf (.cons (.op .ix (.cons (.var 0) (.cons (.var 2) .nil))) .nil))) .nil)) (.cons (.ret (.var 1)) .nil)))
/-- _law_rows_same(found, due): 0 found 1 due 2 shelf -/
def b__law_rows_same : Cms := (.cons (.ite (.or (.op .bnot (.cons (.op (.isi [.ty .dct]) (.cons (.var 0) .nil)) .nil)) (.op .ne (.cons (.op .len (.cons (.var 0) .nil)) (.cons (.op .len (.cons (.var 1) .nil)) .nil)))) (.cons (.ret (.cst (.bl false))) .nil) .nil) (.cons (.forV 2 1 (.cons (.ite (.or (.op .nin (.cons (.var 2) (.cons (.var 0) .nil))) (.or (.op .bnot (.cons (.op (.isi [.ty .lst]) (.cons (.op .ix (.cons (.var 0) (.cons (.var 2) .nil))) .nil)) .nil)) (.op .ne (.cons (.op .ix (.cons (.var 0) (.cons (.var 2) .nil))) (.cons (.op .ix (.cons (.var 1) (.cons (.var 2) .nil))) .nil))))) (.cons (.ret (.cst (.bl false))) .nil) .nil) .nil)) (.cons (.ret (.cst (.bl true))) .nil)))
/-- _law_without(rows, some): 0 rows 1 some 2 out 3 shelf 4 row 5 name -/
def b__law_without : Cms := (.cons (.asg 2 (.op .dnT .nil)) (.cons (.forV 3 0 (.cons (.asg 4 (.compIf (.var 5) 5 (.seq (.op .ix (.cons (.var 0) (.cons (.var 3) .nil)))) (.op .nin (.cons (.var 5) (.cons (.var 1) .nil))))) (.cons (.ite (.op .ne (.cons (.var 4) (.cons (.op .lst .nil) .nil))) (.cons (.setX (.var 2) (.var 3) (.var 4)) .nil) .nil) .nil))) (.cons (.ret (.var 2)) .nil)))
/-- _law_row(names, cell): 0 names 1 cell 2 mixed 3 steps 4 step 5 size 6 k -/
def b__law_row : Cms := (.cons (.asg 2 (.op .mod (.cons (.op .mul (.cons (.var 1) (.cons (.cst (.int 50021)) .nil))) (.cons (.cst (.int 2147483399)) .nil)))) (.cons (.asg 3 (.op .lst (.cons (.cst (.int 1)) (.cons (.cst (.int 3)) (.cons (.cst (.int 5)) (.cons (.cst (.int 7)) (.cons (.cst (.int 9)) (.cons (.cst (.int 11)) (.cons (.cst (.int 15)) (.cons (.cst (.int 17)) (.cons (.cst (.int 19)) (.cons (.cst (.int 21)) (.cons (.cst (.int 23)) (.cons (.cst (.int 25)) .nil)))))))))))))) (.cons (.asg 4 (.op .ix (.cons (.var 3) (.cons (.op .mod (.cons (.op .fdiv (.cons (.var 2) (.cons (.cst (.int 26)) .nil))) (.cons (.cst (.int 12)) .nil))) .nil)))) (.cons (.asg 5 (.op .mod (.cons (.op .fdiv (.cons (.var 2) (.cons (.cst (.int 312)) .nil))) (.cons (.cst (.int 9)) .nil)))) (.cons (.ite (.op .eq (.cons (.op .mod (.cons (.op .fdiv (.cons (.var 2) (.cons (.cst (.int 2808)) .nil))) (.cons (.cst (.int 6)) .nil))) (.cons (.cst (.int 1)) .nil))) (.cons (.asg 5 (.op .mod (.cons (.op .fdiv (.cons (.var 2) (.cons (.cst (.int 16848)) .nil))) (.cons (.cst (.int 27)) .nil)))) .nil) .nil) (.cons (.ret (.comp (.op .ix (.cons (.var 0) (.cons (.op .mod (.cons (.op .add (.cons (.var 2) (.cons (.op .mul (.cons (.var 4) (.cons (.var 6) .nil))) .nil))) (.cons (.cst (.int 26)) .nil))) .nil))) 6 (.rng1 (.var 5)))) .nil))))))
/-- _law_tried(rows, shelf, name, place): 0 rows 1 shelf 2 name 3 place 4 found 5 kinds 6 e 7 others -/
def b__law_tried : Cms := (.cons (.asg 4 (.cst .non)) (.cons (.asg 5 (.op .lst .nil)) (.cons (.tryC (.asg 4 (.call 1 (.cons (.var 0) (.cons (.var 1) (.cons (.var 2) (.cons (.var 3) .nil)))))) 0 6 (.cons (.asg 7 (.isE [(.own 1), (.own 2), (.own 3), (.own 5), (.own 6), (.own 7), (.own 8), (.own 9), (.own 10)])) (.cons (.asg 5 (.op .lst (.cons (.isE [.valErr]) (.cons (.isE [(.own 4)]) (.cons (.var 7) .nil))))) .nil))) (.cons (.ret (.op .tup (.cons (.var 4) (.cons (.var 5) .nil)))) .nil))))
/-- _law_shelves(script): 0 script 1 houses 2 wares 3 k -/
def b__law_shelves : Cms := (.cons (.asg 1 (.call 3 (.cons (.call 2 (.cons (.var 0) (.cons (.cst (.int 0)) .nil))) (.cons (.cst (.int 2)) .nil)))) (.cons (.asg 2 (.call 3 (.cons (.call 2 (.cons (.var 0) (.cons (.cst (.int 1)) .nil))) (.cons (.cst (.int 3)) .nil)))) (.cons (.ret (.op .add (.cons (.comp (.op .tup (.cons (.op .ix (.cons (.var 1) (.cons (.op .fdiv (.cons (.var 3) (.cons (.cst (.int 2)) .nil))) .nil))) (.cons (.op .ix (.cons (.var 2) (.cons (.op .mod (.cons (.var 3) (.cons (.cst (.int 2)) .nil))) .nil))) .nil))) 3 (.rng1 (.cst (.int 4)))) (.cons (.op .lst (.cons (.op .tup (.cons (.op .ix (.cons (.var 1) (.cons (.cst (.int 0)) .nil))) (.cons (.op .ix (.cons (.var 2) (.cons (.cst (.int 2)) .nil))) .nil))) .nil)) .nil)))) .nil)))
/-- law(script): 0 script 1 shelves 2 names 3 mine 4 k 5 row 6 held 7 cells 8 spot 9 cell 10 shelf 11 other 12 name 13 place 14 handed 15 found 16 kinds 17 due 18 one -/
def b_law : Cms := (.cons (.asg 1 (.call 9 (.cons (.var 0) .nil))) (.cons (.asg 2 (.call 3 (.cons (.call 2 (.cons (.var 0) (.cons (.cst (.int 2)) .nil))) (.cons (.cst (.int 26)) .nil)))) (.cons (.asg 3 (.op .dnT .nil)) (.cons (.for1 4 (.rng1 (.cst (.int 4))) (.cons (.asg 5 (.call 7 (.cons (.var 2) (.cons (.call 2 (.cons (.var 0) (.cons (.op .add (.cons (.cst (.int 3)) (.cons (.var 4) .nil))) .nil))) .nil)))) (.cons (.ite (.op .ne (.cons (.var 5) (.cons (.op .lst .nil) .nil))) (.cons (.setX (.var 3) (.op .ix (.cons (.var 1) (.cons (.var 4) .nil))) (.var 5)) .nil) .nil) .nil))) (.cons (.asg 6 (.op .lst .nil)) (.cons (.asg 7 (.op .cutB (.cons (.var 0) (.cons (.cst (.int 7)) (.cons (.cst (.int 63)) .nil))))) (.cons (.for1 8 (.rng3 (.cst (.int 0)) (.op .len (.cons (.var 7) .nil)) (.cst (.int 3))) (.cons (.asg 9 (.op .mod (.cons (.op .mul (.cons (.op .ix (.cons (.var 7) (.cons (.var 8) .nil))) (.cons (.cst (.int 48271)) .nil))) (.cons (.cst (.int 2147483647)) .nil)))) (.cons (.asg 10 (.op .ix (.cons (.var 1) (.cons (.op .mod (.cons (.var 9) (.cons (.cst (.int 5)) .nil))) .nil)))) (.cons (.asg 5 (.bm .get2 (.var 3) (.cons (.var 10) (.cons (.op .lst .nil) .nil)))) (.cons (.asg 11 (.call 2 (.cons (.var 7) (.cons (.op .add (.cons (.var 8) (.cons (.cst (.int 1)) .nil))) .nil)))) (.cons (.asg 12 (.op .ix (.cons (.var 2) (.cons (.op .mod (.cons (.var 11) (.cons (.cst (.int 26)) .nil))) .nil)))) (.cons (.ite (.and (.op .ne (.cons (.var 5) (.cons (.op .lst .nil) .nil))) (.op .gt (.cons (.op .mod (.cons (.op .fdiv (.cons (.var 9) (.cons (.cst (.int 5)) .nil))) (.cons (.cst (.int 3)) .nil))) (.cons (.cst (.int 0)) .nil)))) (.cons (.asg 12 (.op .ix (.cons (.var 5) (.cons (.op .mod (.cons (.var 11) (.cons (.op .len (.cons (.var 5) .nil)) .nil))) .nil)))) .nil) .nil) (.cons (.asg 13 (.op .mod (.cons (.call 2 (.cons (.var 7) (.cons (.op .add (.cons (.var 8) (.cons (.cst (.int 2)) .nil))) .nil))) (.cons (.op .ix (.cons (.op .lst (.cons (.cst (.int 5)) (.cons (.cst (.int 30)) (.cons (.op .pow (.cons (.cst (.int 10)) (.cons (.cst (.int 60)) .nil))) .nil)))) (.cons (.op .mod (.cons (.op .fdiv (.cons (.var 9) (.cons (.cst (.int 15)) .nil))) (.cons (.cst (.int 3)) .nil))) .nil))) .nil)))) (.cons (.asg 14 (.call 4 (.cons (.var 3) .nil))) (.cons (.asgT [15, 16] (.call 8 (.cons (.var 14) (.cons (.var 10) (.cons (.var 12) (.cons (.var 13) .nil)))))) (.cons (.ite (.op .bnot (.cons (.call 5 (.cons (.var 14) (.cons (.var 3) .nil))) .nil)) (.cons (.ret (.cst (.bl false))) .nil) .nil) (.cons (.ite (.op .nin (.cons (.var 12) (.cons (.var 5) .nil))) (.cons (.ite (.op .ne (.cons (.var 16) (.cons (.op .lst (.cons (.cst (.bl true)) (.cons (.cst (.bl true)) (.cons (.cst (.bl false)) .nil)))) .nil))) (.cons (.ret (.cst (.bl false))) .nil) .nil) .nil) (.cons (.asg 17 (.call 4 (.cons (.var 3) .nil))) (.cons (.ex (.bm .remove (.op .ix (.cons (.var 17) (.cons (.var 10) .nil))) (.cons (.var 12) .nil))) (.cons (.ex (.bm .insert (.op .ix (.cons (.var 17) (.cons (.var 10) .nil))) (.cons (.op .min2 (.cons (.var 13) (.cons (.op .len (.cons (.op .ix (.cons (.var 17) (.cons (.var 10) .nil))) .nil)) .nil))) (.cons (.var 12) .nil)))) (.cons (.ite (.or (.op .ne (.cons (.var 16) (.cons (.op .lst .nil) .nil))) (.op .bnot (.cons (.call 5 (.cons (.var 15) (.cons (.var 17) .nil))) .nil))) (.cons (.ret (.cst (.bl false))) .nil) .nil) (.cons (.ex (.bm .append (.var 6) (.cons (.op .tup (.cons (.var 15) (.cons (.var 17) .nil))) .nil))) (.cons (.asg 3 (.var 17)) .nil))))))) (.cons (.for1 18 (.seq (.op .listOf (.cons (.var 14) .nil))) (.cons (.ex (.bm .append (.op .ix (.cons (.var 14) (.cons (.var 18) .nil))) (.cons (.cst (.str s1)) .nil))) .nil)) .nil))))))))))))) (.cons (.forT [15, 17] (.seq (.var 6)) (.cons (.ite (.op .bnot (.cons (.call 5 (.cons (.var 15) (.cons (.var 17) .nil))) .nil)) (.cons (.ret (.cst (.bl false))) .nil) .nil) .nil)) (.cons (.ret (.cst (.bl true))) .nil)))))))))
def TT : Tab where
  con := fun g => match g with
    | _ => none
  ini := fun _ => none
  met := fun _ _ => none
  sub := fun k j => ([(0, 0), (1, 1), (1, 0), (2, 2), (2, 0), (3, 3), (3, 0), (4, 4), (4, 0), (5, 5), (5, 0), (6, 6), (6, 0), (7, 7), (7, 0), (8, 8), (8, 0), (9, 9), (9, 0), (10, 10), (10, 0)] : List (Nat × Nat)).contains (k, j)
  exc := fun _ => false
def FT : Nat → Option Df := fun f => match f with
  | 0 => some ⟨1, 3, b_copied⟩
  | 1 => some ⟨4, 8, b_put_to⟩
  | 2 => some ⟨2, 2, b__law_cell_at⟩
  | 3 => some ⟨2, 14, b__law_names⟩
  | 4 => some ⟨1, 3, b__law_copy⟩
  | 5 => some ⟨2, 3, b__law_rows_same⟩
  | 6 => some ⟨2, 6, b__law_without⟩
  | 7 => some ⟨2, 7, b__law_row⟩
  | 8 => some ⟨4, 8, b__law_tried⟩
  | 9 => some ⟨1, 4, b__law_shelves⟩
  | 10 => some ⟨1, 19, b_law⟩
  | _ => none
end Lk12
namespace Lk12
open PySem Mp
abbrev K2 := List Nat × List Nat
abbrev Nm := List Nat
def kd (k : K2) : D := .tup [.str k.1, .str k.2]
theorem kd_inj {a b : K2} (h : kd a = kd b) : a = b := by
  cases a; cases b; unfold kd at h; simp at h; exact Prod.ext h.1 h.2
variable {Q : PQ} {EX : PX} {S S0 : Sto} {d x y z u : D} {n : Nat}
abbrev Kc (Q : PQ) : Kt := { nx := fun _ S' => Q .non S', rt := Q, bk := fun _ _ => False, ct := fun _ _ => False }
theorem call0 : wpCall TT FT (n + 1) 0 [d] S Q EX = (1 = 1 ∧ wpCs TT (wpCall TT FT n) none b_copied [some d, none, none] S (Kc Q) EX) := rfl
theorem call1 : wpCall TT FT (n + 1) 1 [d, x, y, z] S Q EX = (4 = 4 ∧ wpCs TT (wpCall TT FT n) none b_put_to [some d, some x, some y, some z, none, none, none, none] S (Kc Q) EX) := rfl
theorem call2 : wpCall TT FT (n + 1) 2 [d, x] S Q EX = (2 = 2 ∧ wpCs TT (wpCall TT FT n) none b__law_cell_at [some d, some x] S (Kc Q) EX) := rfl
theorem call3 : wpCall TT FT (n + 1) 3 [d, x] S Q EX = (2 = 2 ∧ wpCs TT (wpCall TT FT n) none b__law_names [some d, some x, none, none, none, none, none, none, none, none, none, none, none, none] S (Kc Q) EX) := rfl
theorem call4 : wpCall TT FT (n + 1) 4 [d] S Q EX = (1 = 1 ∧ wpCs TT (wpCall TT FT n) none b__law_copy [some d, none, none] S (Kc Q) EX) := rfl
theorem call5 : wpCall TT FT (n + 1) 5 [d, x] S Q EX = (2 = 2 ∧ wpCs TT (wpCall TT FT n) none b__law_rows_same [some d, some x, none] S (Kc Q) EX) := rfl
theorem call6 : wpCall TT FT (n + 1) 6 [d, x] S Q EX = (2 = 2 ∧ wpCs TT (wpCall TT FT n) none b__law_without [some d, some x, none, none, none, none] S (Kc Q) EX) := rfl
theorem call7 : wpCall TT FT (n + 1) 7 [d, x] S Q EX = (2 = 2 ∧ wpCs TT (wpCall TT FT n) none b__law_row [some d, some x, none, none, none, none, none] S (Kc Q) EX) := rfl
theorem call8 : wpCall TT FT (n + 1) 8 [d, x, y, z] S Q EX = (4 = 4 ∧ wpCs TT (wpCall TT FT n) none b__law_tried [some d, some x, some y, some z, none, none, none, none] S (Kc Q) EX) := rfl
theorem call9 : wpCall TT FT (n + 1) 9 [d] S Q EX = (1 = 1 ∧ wpCs TT (wpCall TT FT n) none b__law_shelves [some d, none, none, none] S (Kc Q) EX) := rfl
theorem call10 : wpCall TT FT (n + 1) 10 [d] S Q EX = (1 = 1 ∧ wpCs TT (wpCall TT FT n) none b_law [some d, none, none, none, none, none, none, none, none, none, none, none, none, none, none, none, none, none, none] S (Kc Q) EX) := rfl
theorem keyOk_kd (k : K2) : keyOk true (kd k) = true := rfl
theorem isL {r : Nat} {ds : List D} (h : S[r]? = some (.lst ds)) : opD TT (.isi [.ty .lst]) [.ref r] S Q = Q (.bl true) S := by
  rw [od_isi]
  have : clsOf TT S (.ref r) (.ty .lst) = some true := by simp [clsOf, tyD, h, clsT, Ty.le]
  simp [this]
/-! ### cells, names -/
def IsCells (S : Sto) (d : D) (ns : List Int) : Prop := seqD S d = some (ns.map .int)
theorem sp_cell {ns : List Int} {k : Int} {r : Nat} (h0 : 0 ≤ k) (hs : S[r]? = some (.lst (ns.map .int))) (h : ∀ z, Q (.int z) S) : wpCall TT FT (n + 1) 2 [.ref r, .int k] S Q EX := by
  rw [call2]
  refine ⟨rfl, ?_⟩
  unfold b__law_cell_at
  simp only [wpCs, wpC, wpT, wpE, wpEs, wpI, asg1, List.getElem?_cons_zero, List.getElem?_cons_succ, List.set_cons_zero, List.set_cons_succ, od_addI, od_addS, od_sub, od_mulI, od_div, od_mod, od_neg, od_not, od_eqI, od_neI, od_ltI, od_le, od_gt, od_ge, od_isN, od_notN, od_inS, od_ninS, od_tup, od_lst, od_dnT, od_lenS, od_lenT, od_lenQ, od_ixT, od_ixQ, od_min, od_int1, od_intB, od_listT, od_tupT, od_cutHQ, List.length_cons, List.length_nil, if_true, true_and, and_true, Bool.not_true, Bool.not_false, Bool.false_eq_true, if_false, ite_true, ite_false, decide_true, decide_false, reduceIte, Option.some.injEq, exists_eq_left', Int.reduceLT, Int.reduceLE, Int.reduceToNat, and_self, true_or, or_true, od_lenL hs, List.length_map]
  by_cases c : k < ns.length
  · simp only [c, wpCs, wpC, wpT, wpE, wpEs, wpI, asg1, List.getElem?_cons_zero, List.getElem?_cons_succ, List.set_cons_zero, List.set_cons_succ, od_addI, od_addS, od_sub, od_mulI, od_div, od_mod, od_neg, od_not, od_eqI, od_neI, od_ltI, od_le, od_gt, od_ge, od_isN, od_notN, od_inS, od_ninS, od_tup, od_lst, od_dnT, od_lenS, od_lenT, od_lenQ, od_ixT, od_ixQ, od_min, od_int1, od_intB, od_listT, od_tupT, od_cutHQ, List.length_cons, List.length_nil, if_true, true_and, and_true, Bool.not_true, Bool.not_false, Bool.false_eq_true, if_false, ite_true, ite_false, decide_true, decide_false, reduceIte, Option.some.injEq, exists_eq_left', Int.reduceLT, Int.reduceLE, Int.reduceToNat, and_self, true_or, or_true, od_ixL hs]
    refine ⟨_, atI_nn h0 (by simpa using c), ?_⟩
    rw [List.getElem_map]; exact h _
  · simp only [c, wpCs, wpC, wpT, wpE, wpEs, wpI, asg1, List.getElem?_cons_zero, List.getElem?_cons_succ, List.set_cons_zero, List.set_cons_succ, od_addI, od_addS, od_sub, od_mulI, od_div, od_mod, od_neg, od_not, od_eqI, od_neI, od_ltI, od_le, od_gt, od_ge, od_isN, od_notN, od_inS, od_ninS, od_tup, od_lst, od_dnT, od_lenS, od_lenT, od_lenQ, od_ixT, od_ixQ, od_min, od_int1, od_intB, od_listT, od_tupT, od_cutHQ, List.length_cons, List.length_nil, if_true, true_and, and_true, Bool.not_true, Bool.not_false, Bool.false_eq_true, if_false, ite_true, ite_false, decide_true, decide_false, reduceIte, Option.some.injEq, exists_eq_left', Int.reduceLT, Int.reduceLE, Int.reduceToNat, and_self, true_or, or_true]; exact h 0
theorem sp_cellQ {ns : List Int} {k : Int} (h0 : 0 ≤ k) (h : ∀ z, Q (.int z) S) : wpCall TT FT (n + 1) 2 [.lis (ns.map .int), .int k] S Q EX := by
  rw [call2]
  refine ⟨rfl, ?_⟩
  unfold b__law_cell_at
  simp only [wpCs, wpC, wpT, wpE, wpEs, wpI, asg1, List.getElem?_cons_zero, List.getElem?_cons_succ, List.set_cons_zero, List.set_cons_succ, od_addI, od_addS, od_sub, od_mulI, od_div, od_mod, od_neg, od_not, od_eqI, od_neI, od_ltI, od_le, od_gt, od_ge, od_isN, od_notN, od_inS, od_ninS, od_tup, od_lst, od_dnT, od_lenS, od_lenT, od_lenQ, od_ixT, od_ixQ, od_min, od_int1, od_intB, od_listT, od_tupT, od_cutHQ, List.length_cons, List.length_nil, if_true, true_and, and_true, Bool.not_true, Bool.not_false, Bool.false_eq_true, if_false, ite_true, ite_false, decide_true, decide_false, reduceIte, Option.some.injEq, exists_eq_left', Int.reduceLT, Int.reduceLE, Int.reduceToNat, and_self, true_or, or_true, List.length_map]
  by_cases c : k < ns.length
  · simp only [c, wpCs, wpC, wpT, wpE, wpEs, wpI, asg1, List.getElem?_cons_zero, List.getElem?_cons_succ, List.set_cons_zero, List.set_cons_succ, od_addI, od_addS, od_sub, od_mulI, od_div, od_mod, od_neg, od_not, od_eqI, od_neI, od_ltI, od_le, od_gt, od_ge, od_isN, od_notN, od_inS, od_ninS, od_tup, od_lst, od_dnT, od_lenS, od_lenT, od_lenQ, od_ixT, od_ixQ, od_min, od_int1, od_intB, od_listT, od_tupT, od_cutHQ, List.length_cons, List.length_nil, if_true, true_and, and_true, Bool.not_true, Bool.not_false, Bool.false_eq_true, if_false, ite_true, ite_false, decide_true, decide_false, reduceIte, Option.some.injEq, exists_eq_left', Int.reduceLT, Int.reduceLE, Int.reduceToNat, and_self, true_or, or_true]
    refine ⟨_, atI_nn h0 (by simpa using c), ?_⟩
    rw [List.getElem_map]; exact h _
  · simp only [c, wpCs, wpC, wpT, wpE, wpEs, wpI, asg1, List.getElem?_cons_zero, List.getElem?_cons_succ, List.set_cons_zero, List.set_cons_succ, od_addI, od_addS, od_sub, od_mulI, od_div, od_mod, od_neg, od_not, od_eqI, od_neI, od_ltI, od_le, od_gt, od_ge, od_isN, od_notN, od_inS, od_ninS, od_tup, od_lst, od_dnT, od_lenS, od_lenT, od_lenQ, od_ixT, od_ixQ, od_min, od_int1, od_intB, od_listT, od_tupT, od_cutHQ, List.length_cons, List.length_nil, if_true, true_and, and_true, Bool.not_true, Bool.not_false, Bool.false_eq_true, if_false, ite_true, ite_false, decide_true, decide_false, reduceIte, Option.some.injEq, exists_eq_left', Int.reduceLT, Int.reduceLE, Int.reduceToNat, and_self, true_or, or_true]; exact h 0
theorem at_s0 {i : Int} (h0 : 0 ≤ i) (h : i < 26) : L2.atI s0 i = some (s0.getD i.toNat 0) := by
  rw [atI_nn h0 (by show i < 26; exact h)]
  congr 1
  rw [List.getD_eq_getElem?_getD, List.getElem?_eq_getElem]; rfl
theorem strs_map {f : D → D} {B : Nat} : ∀ items : List D, (∀ x ∈ items, ∃ s, f x = .str s ∧ s.length ≤ B) → ∃ ss : List Nm, items.map f = ss.map .str ∧ ss.length = items.length ∧ ∀ s ∈ ss, s.length ≤ B
  | [], _ => ⟨[], rfl, rfl, by simp⟩
  | x :: xs, h => by
    obtain ⟨s, e, hs⟩ := h x (by simp)
    obtain ⟨ss, e2, hl, hb⟩ := strs_map xs fun y hy => h y (by simp [hy])
    refine ⟨s :: ss, by rw [List.map_cons, List.map_cons, e, e2], by simp [hl], fun t ht => ?_⟩
    rcases List.mem_cons.mp ht with rfl | ht
    · exact hs
    · exact hb t ht
def rep (c : Nat) (k : Int) : List Nat := (List.replicate k.toNat [c]).flatten
theorem rep_len (c : Nat) (k : Int) : (rep c k).length = k.toNat := by simp [rep]
theorem od_rep {c : Nat} {k : Int} (h0 : -1000 ≤ k) (h : k ≤ 100) : opD TT .mul [.str [c], .int k] S Q = Q (.str (rep c k)) S := by
  rw [od_mulS]
  have h1 : k.natAbs < 2 ^ 62 := by omega
  have h2 : ([c] : List Nat).length * k.toNat ≤ LIM := by show 1 * k.toNat ≤ 16777216; omega
  simp only [h1, h2, and_self, true_and]
  rfl
theorem steps12 {i : Int} (h0 : 0 ≤ i) (h : i < 12) : ∃ z : Int, L2.atI ([.int 1, .int 3, .int 5, .int 7, .int 9, .int 11, .int 15, .int 17, .int 19, .int 21, .int 23, .int 25] : List D) i = some (.int z) ∧ z ∈ [1, 3, 5, 7, 9, 11, 15, 17, 19, 21, 23, 25] := by
  have : i = 0 ∨ i = 1 ∨ i = 2 ∨ i = 3 ∨ i = 4 ∨ i = 5 ∨ i = 6 ∨ i = 7 ∨ i = 8 ∨ i = 9 ∨ i = 10 ∨ i = 11 := by omega
  rcases this with rfl | rfl | rfl | rfl | rfl | rfl | rfl | rfl | rfl | rfl | rfl | rfl <;> exact ⟨_, rfl, by decide⟩
theorem step_inj {b st : Int} (h : st ∈ ([1, 3, 5, 7, 9, 11, 15, 17, 19, 21, 23, 25] : List Int)) {i j : Nat} (hi : i < 26) (hj : j < 26) (e : (b + st * i) % 26 = (b + st * j) % 26) : i = j := by
  simp only [List.mem_cons, List.not_mem_nil, or_false] at h
  rcases h with rfl | rfl | rfl | rfl | rfl | rfl | rfl | rfl | rfl | rfl | rfl | rfl <;> omega
theorem letter_inj {i j : Int} (hi : 0 ≤ i) (hi' : i < 26) (hj : 0 ≤ j) (hj' : j < 26) (e : s0.getD i.toNat 0 = s0.getD j.toNat 0) : i = j := by
  have key : ∀ k : Fin 26, s0.getD k.val 0 = 97 + k.val := by decide
  have a := key ⟨i.toNat, by omega⟩
  have b := key ⟨j.toNat, by omega⟩
  simp only at a b
  omega
theorem nodup_rng {α : Type} {f : Nat → α} {m : Nat} (h : ∀ i j, i < m → j < m → f i = f j → i = j) : ((List.range m).map f).Nodup := by
  refine List.nodup_iff_pairwise_ne.mpr (List.pairwise_map.mpr ?_)
  rw [List.pairwise_iff_getElem]
  intro i j hi hj hij
  rw [List.getElem_range, List.getElem_range]
  intro e
  have := h i j (by simpa using hi) (by simpa using hj) e
  omega
/-- the k-th name -/
def nmk (ch : Nat) (y bg st : Int) (mo : Int → Int) (k : Nat) : Nm := rep ch y ++ [s0.getD ((bg + st * (0 + (k : Int) * 1)) % 26).toNat 0] ++ rep ch (mo (0 + (k : Int) * 1))
theorem nmk_inj {ch : Nat} {y bg st : Int} {mo : Int → Int} (h : st ∈ ([1, 3, 5, 7, 9, 11, 15, 17, 19, 21, 23, 25] : List Int)) {i j : Nat} (hi : i < 26) (hj : j < 26) (e : nmk ch y bg st mo i = nmk ch y bg st mo j) : i = j := by
  unfold nmk at e
  rw [List.append_assoc, List.append_assoc] at e
  have e2 := (List.append_inj e rfl).2
  simp only [List.cons_append, List.nil_append, List.cons.injEq] at e2
  have := letter_inj (Int.emod_nonneg _ (by decide)) (Int.emod_lt_of_pos _ (by decide)) (Int.emod_nonneg _ (by decide)) (Int.emod_lt_of_pos _ (by decide)) e2.1
  rw [show (0 + (i : Int) * 1) = i by omega, show (0 + (j : Int) * 1) = j by omega] at this
  exact step_inj h hi hj this
theorem rng_int {m : Nat} {x : D} (h : x ∈ rngItems 0 1 m) : ∃ k : Nat, k < m ∧ x = .int (k : Int) := by
  obtain ⟨k, hk, e⟩ := mem_rng h
  exact ⟨k, hk, by rw [e]; congr 1; omega⟩
theorem len_rng {i c : Int} {m : Nat} : (rngItems i c m).length = m := by simp [rngItems]
def SL (S : Sto) (r : Nat) (ss : List Nm) : Prop := S[r]? = some (.lst (ss.map .str))
theorem sp_names {c : Int} {m : Nat} (hm : m ≤ 26) (hq : ∀ (S' : Sto) (r : Nat) (ss : List Nm), Gr S S' → S'[r]? = some (.lst (ss.map .str)) → ss.length = m → (9 ≤ m → ss.Nodup) → Q (.ref r) S') : wpCall TT FT (n + 1) 3 [.int c, .int m] S Q EX := by
  rw [call3]
  refine ⟨rfl, ?_⟩
  unfold b__law_names
  simp only [wpCs, wpC, wpT, wpE, wpEs, wpI, asg1, List.getElem?_cons_zero, List.getElem?_cons_succ, List.set_cons_zero, List.set_cons_succ, od_addI, od_addS, od_sub, od_mulI, od_div, od_mod, od_neg, od_not, od_eqI, od_neI, od_ltI, od_le, od_gt, od_ge, od_isN, od_notN, od_inS, od_ninS, od_tup, od_lst, od_dnT, od_lenS, od_lenT, od_lenQ, od_ixT, od_ixQ, od_min, od_int1, od_intB, od_listT, od_tupT, od_cutHQ, List.length_cons, List.length_nil, if_true, true_and, and_true, Bool.not_true, Bool.not_false, Bool.false_eq_true, if_false, ite_true, ite_false, decide_true, decide_false, reduceIte, Option.some.injEq, exists_eq_left', Int.reduceLT, Int.reduceLE, Int.reduceToNat, and_self, true_or, or_true, od_ixS (show s0.length ≤ LIM by decide)]
  refine ⟨.inr (by decide), ?_⟩
  generalize (c * 48271) % 2147483647 = N
  have z0 : 0 ≤ N % 8 := Int.emod_nonneg _ (by decide)
  have z1 : N % 8 < 8 := Int.emod_lt_of_pos _ (by decide)
  generalize N % 8 = z at z0 z1 ⊢
  have y0 : 0 ≤ N / 8 % (1 + z) := Int.emod_nonneg _ (by omega)
  have y1 : N / 8 % (1 + z) < 1 + z := Int.emod_lt_of_pos _ (by omega)
  refine ⟨by omega, ?_⟩
  generalize N / 8 % (1 + z) = y at y0 y1 ⊢
  rw [at_s0 (Int.emod_nonneg _ (by decide)) (Int.emod_lt_of_pos _ (by decide))]
  try simp only [wpCs, wpC, wpT, wpE, wpEs, wpI, asg1, List.getElem?_cons_zero, List.getElem?_cons_succ, List.set_cons_zero, List.set_cons_succ, od_addI, od_addS, od_sub, od_mulI, od_div, od_mod, od_neg, od_not, od_eqI, od_neI, od_ltI, od_le, od_gt, od_ge, od_isN, od_notN, od_inS, od_ninS, od_tup, od_lst, od_dnT, od_lenS, od_lenT, od_lenQ, od_ixT, od_ixQ, od_min, od_int1, od_intB, od_listT, od_tupT, od_cutHQ, List.length_cons, List.length_nil, if_true, true_and, and_true, Bool.not_true, Bool.not_false, Bool.false_eq_true, if_false, ite_true, ite_false, decide_true, decide_false, reduceIte, Option.some.injEq, exists_eq_left', Int.reduceLT, Int.reduceLE, Int.reduceToNat, and_self, true_or, or_true]
  generalize s0.getD (N / 64 % 26).toNat 0 = ch
  refine ⟨by decide, ?_⟩
  rw [od_ixL (at_push _ _)]
  obtain ⟨st, hst, hstm⟩ := steps12 (i := N / 43264 % 12) (Int.emod_nonneg _ (by decide)) (Int.emod_lt_of_pos _ (by decide))
  refine ⟨_, hst, ?_⟩
  try simp only [wpCs, wpC, wpT, wpE, wpEs, wpI, asg1, List.getElem?_cons_zero, List.getElem?_cons_succ, List.set_cons_zero, List.set_cons_succ, od_addI, od_addS, od_sub, od_mulI, od_div, od_mod, od_neg, od_not, od_eqI, od_neI, od_ltI, od_le, od_gt, od_ge, od_isN, od_notN, od_inS, od_ninS, od_tup, od_lst, od_dnT, od_lenS, od_lenT, od_lenQ, od_ixT, od_ixQ, od_min, od_int1, od_intB, od_listT, od_tupT, od_cutHQ, List.length_cons, List.length_nil, if_true, true_and, and_true, Bool.not_true, Bool.not_false, Bool.false_eq_true, if_false, ite_true, ite_false, decide_true, decide_false, reduceIte, Option.some.injEq, exists_eq_left', Int.reduceLT, Int.reduceLE, Int.reduceToNat, and_self, true_or, or_true]
  generalize hS1 : S ++ [Ob.lst [.int 1, .int 3, .int 5, .int 7, .int 9, .int 11, .int 15, .int 17, .int 19, .int 21, .int 23, .int 25]] = S1
  have gS1 : Gr S S1 := by rw [← hS1]; exact Gr.push _ _
  generalize N / 1664 % 26 = bg
  have emm : ((m : Int)).toNat = m := Int.toNat_natCast m
  refine ⟨by decide, by omega, by omega, ?_⟩
  rw [emm]
  refine foN_ix (fun j ρ S2 => Gr S1 S2 ∧ (∃ ss : List Nm, S2[S1.length]? = some (.lst (ss.map .str)) ∧ ss.length = j ∧ ss = (List.range j).map (nmk ch y bg st fun q => 1 + z - 1 - y + q % 2 * (if 1 + z < 8 then 1 else 0))) ∧ ∃ e0 e1 e8 e11 e12 e13, ρ = [e0, e1, some (.str s0), some (.int N), some (.int (1 + z)), some (.int y), some (.str [ch]), some (.int bg), e8, some (.int st), some (.ref S1.length), e11, e12, e13] ∧ e1 = some (.int m)) (fun _ _ _ _ => trivial) ?_ ?_ _ _ ⟨Gr.push _ _, ⟨[], at_push _ _, rfl, rfl⟩, _, _, _, _, _, _, rfl, rfl⟩
  · rintro j x ρ S2 K' hx ⟨g2, ⟨ss, h2, hl, hss⟩, e0, e1, e8, e11, e12, e13, rfl, rfl⟩ hnx hrt
    obtain ⟨hj, rfl⟩ := rng_get hx
    refine ⟨_, rfl, ?_⟩
    have b0 : (0 : Int) ≤ (if 1 + z < 8 then 1 else 0) := by split <;> omega
    have b1 : (if 1 + z < 8 then (1 : Int) else 0) ≤ 1 := by split <;> omega
    simp only [wpCs, wpC, wpT, wpE, wpEs, wpI, asg1, List.getElem?_cons_zero, List.getElem?_cons_succ, List.set_cons_zero, List.set_cons_succ, od_addI, od_addS, od_sub, od_mulI, od_div, od_mod, od_neg, od_not, od_eqI, od_neI, od_ltI, od_le, od_gt, od_ge, od_isN, od_notN, od_inS, od_ninS, od_tup, od_lst, od_dnT, od_lenS, od_lenT, od_lenQ, od_ixT, od_ixQ, od_min, od_int1, od_intB, od_listT, od_tupT, od_cutHQ, List.length_cons, List.length_nil, if_true, true_and, and_true, Bool.not_true, Bool.not_false, Bool.false_eq_true, if_false, ite_true, ite_false, decide_true, decide_false, reduceIte, Option.some.injEq, exists_eq_left', Int.reduceLT, Int.reduceLE, Int.reduceToNat, and_self, true_or, or_true, od_ixS (show s0.length ≤ LIM by decide), decide_eq_true_eq]
    refine ⟨.inr (by omega), ?_⟩
    rw [at_s0 (Int.emod_nonneg _ (by decide)) (Int.emod_lt_of_pos _ (by decide))]
    simp only [wpCs, wpC, wpT, wpE, wpEs, wpI, asg1, List.getElem?_cons_zero, List.getElem?_cons_succ, List.set_cons_zero, List.set_cons_succ, od_addI, od_addS, od_sub, od_mulI, od_div, od_mod, od_neg, od_not, od_eqI, od_neI, od_ltI, od_le, od_gt, od_ge, od_isN, od_notN, od_inS, od_ninS, od_tup, od_lst, od_dnT, od_lenS, od_lenT, od_lenQ, od_ixT, od_ixQ, od_min, od_int1, od_intB, od_listT, od_tupT, od_cutHQ, List.length_cons, List.length_nil, if_true, true_and, and_true, Bool.not_true, Bool.not_false, Bool.false_eq_true, if_false, ite_true, ite_false, decide_true, decide_false, reduceIte, Option.some.injEq, exists_eq_left', Int.reduceLT, Int.reduceLE, Int.reduceToNat, and_self, true_or, or_true, decide_eq_true_eq]
    generalize hbb : (if 1 + z < 8 then (1 : Int) else 0) = bb at b0 b1 hss ⊢
    have w0 : 0 ≤ (0 + (j : Int) * 1) % 2 := Int.emod_nonneg _ (by decide)
    have w1 : (0 + (j : Int) * 1) % 2 < 2 := Int.emod_lt_of_pos _ (by decide)
    generalize hjj : (0 + (j : Int) * 1) % 2 = jj at w0 w1 ⊢
    have p0 : 0 ≤ jj * bb := Int.mul_nonneg w0 b0
    have p1 : jj * bb ≤ 1 := by
      have : jj = 0 ∨ jj = 1 := by omega
      rcases this with e | e <;> subst e <;> omega
    refine ⟨.inl (by omega), ?_⟩
    generalize hpp : jj * bb = pp at p0 p1 ⊢
    refine ⟨tk_append h2, ?_⟩
    rw [od_rep (by omega) (by omega)]
    simp only [wpCs, wpC, wpT, wpE, wpEs, wpI, asg1, List.getElem?_cons_zero, List.getElem?_cons_succ, List.set_cons_zero, List.set_cons_succ, od_addI, od_addS, od_sub, od_mulI, od_div, od_mod, od_neg, od_not, od_eqI, od_neI, od_ltI, od_le, od_gt, od_ge, od_isN, od_notN, od_inS, od_ninS, od_tup, od_lst, od_dnT, od_lenS, od_lenT, od_lenQ, od_ixT, od_ixQ, od_min, od_int1, od_intB, od_listT, od_tupT, od_cutHQ, List.length_cons, List.length_nil, if_true, true_and, and_true, Bool.not_true, Bool.not_false, Bool.false_eq_true, if_false, ite_true, ite_false, decide_true, decide_false, reduceIte, Option.some.injEq, exists_eq_left', Int.reduceLT, Int.reduceLE, Int.reduceToNat, and_self, true_or, or_true]
    refine ⟨by simp [rep_len]; show _ ≤ 16777216; omega, ?_⟩
    rw [od_rep (by omega) (by omega)]
    simp only [wpCs, wpC, wpT, wpE, wpEs, wpI, asg1, List.getElem?_cons_zero, List.getElem?_cons_succ, List.set_cons_zero, List.set_cons_succ, od_addI, od_addS, od_sub, od_mulI, od_div, od_mod, od_neg, od_not, od_eqI, od_neI, od_ltI, od_le, od_gt, od_ge, od_isN, od_notN, od_inS, od_ninS, od_tup, od_lst, od_dnT, od_lenS, od_lenT, od_lenQ, od_ixT, od_ixQ, od_min, od_int1, od_intB, od_listT, od_tupT, od_cutHQ, List.length_cons, List.length_nil, if_true, true_and, and_true, Bool.not_true, Bool.not_false, Bool.false_eq_true, if_false, ite_true, ite_false, decide_true, decide_false, reduceIte, Option.some.injEq, exists_eq_left', Int.reduceLT, Int.reduceLE, Int.reduceToNat, and_self, true_or, or_true]
    refine ⟨by simp [rep_len]; show _ ≤ 16777216; omega, ?_⟩
    rw [od_append h2]
    refine ⟨by rw [List.length_map, hl]; show j < 16777216; omega, ?_⟩
    refine hnx _ _ ⟨g2.set (Nat.le_refl _), ⟨ss ++ [rep ch y ++ [s0.getD ((bg + st * (0 + (j : Int) * 1)) % 26).toNat 0] ++ rep ch (1 + z - 1 - y + pp)], ?_, by simp [hl], ?_⟩, _, _, _, _, _, _, rfl, rfl⟩
    · rw [at_set h2]; simp
    · rw [List.range_succ, List.map_append, hss, ← hpp, ← hjj, hbb]; rfl
  · rintro ρ S2 ⟨g2, ⟨ss, h2, hl, hss⟩, e0, e1, e8, e11, e12, e13, rfl, rfl⟩
    rw [len_rng] at hl
    have hnd : ss.Nodup := by rw [hss, len_rng]; exact nodup_rng fun i j hi hj e => nmk_inj hstm (by omega) (by omega) e
    simp only [wpCs, wpC, wpT, wpE, wpEs, wpI, asg1, List.getElem?_cons_zero, List.getElem?_cons_succ, List.set_cons_zero, List.set_cons_succ, od_addI, od_addS, od_sub, od_mulI, od_div, od_mod, od_neg, od_not, od_eqI, od_neI, od_ltI, od_le, od_gt, od_ge, od_isN, od_notN, od_inS, od_ninS, od_tup, od_lst, od_dnT, od_lenS, od_lenT, od_lenQ, od_ixT, od_ixQ, od_min, od_int1, od_intB, od_listT, od_tupT, od_cutHQ, List.length_cons, List.length_nil, if_true, true_and, and_true, Bool.not_true, Bool.not_false, Bool.false_eq_true, if_false, ite_true, ite_false, decide_true, decide_false, reduceIte, Option.some.injEq, exists_eq_left', Int.reduceLT, Int.reduceLE, Int.reduceToNat, and_self, true_or, or_true]
    by_cases k1 : N / 519168 % 3 = 1
    · simp only [k1, wpCs, wpC, wpT, wpE, wpEs, wpI, asg1, List.getElem?_cons_zero, List.getElem?_cons_succ, List.set_cons_zero, List.set_cons_succ, od_addI, od_addS, od_sub, od_mulI, od_div, od_mod, od_neg, od_not, od_eqI, od_neI, od_ltI, od_le, od_gt, od_ge, od_isN, od_notN, od_inS, od_ninS, od_tup, od_lst, od_dnT, od_lenS, od_lenT, od_lenQ, od_ixT, od_ixQ, od_min, od_int1, od_intB, od_listT, od_tupT, od_cutHQ, List.length_cons, List.length_nil, if_true, true_and, and_true, Bool.not_true, Bool.not_false, Bool.false_eq_true, if_false, ite_true, ite_false, decide_true, decide_false, reduceIte, Option.some.injEq, exists_eq_left', Int.reduceLT, Int.reduceLE, Int.reduceToNat, and_self, true_or, or_true]
      by_cases k2 : (m : Int) ≤ 8
      · simp only [k2, wpCs, wpC, wpT, wpE, wpEs, wpI, asg1, List.getElem?_cons_zero, List.getElem?_cons_succ, List.set_cons_zero, List.set_cons_succ, od_addI, od_addS, od_sub, od_mulI, od_div, od_mod, od_neg, od_not, od_eqI, od_neI, od_ltI, od_le, od_gt, od_ge, od_isN, od_notN, od_inS, od_ninS, od_tup, od_lst, od_dnT, od_lenS, od_lenT, od_lenQ, od_ixT, od_ixQ, od_min, od_int1, od_intB, od_listT, od_tupT, od_cutHQ, List.length_cons, List.length_nil, if_true, true_and, and_true, Bool.not_true, Bool.not_false, Bool.false_eq_true, if_false, ite_true, ite_false, decide_true, decide_false, reduceIte, Option.some.injEq, exists_eq_left', Int.reduceLT, Int.reduceLE, Int.reduceToNat, and_self, true_or, or_true]
        refine ⟨by omega, by omega, ?_⟩
        refine compN_fun (fun x => match x with
          | .int k => .str (rep ch (k + 1))
          | _ => .non) (Nat.le_refl S2.length) (fun _ _ => trivial) _ [] _ (fun x hx S' kk g k => ?_) (Gr.push _ _) (at_push _ _) (by simp [len_rng]; omega) (fun S3 g3 h3 => ?_)
        · obtain ⟨j, hj, rfl⟩ := rng_int hx
          simp only [wpCs, wpC, wpT, wpE, wpEs, wpI, asg1, List.getElem?_cons_zero, List.getElem?_cons_succ, List.set_cons_zero, List.set_cons_succ, od_addI, od_addS, od_sub, od_mulI, od_div, od_mod, od_neg, od_not, od_eqI, od_neI, od_ltI, od_le, od_gt, od_ge, od_isN, od_notN, od_inS, od_ninS, od_tup, od_lst, od_dnT, od_lenS, od_lenT, od_lenQ, od_ixT, od_ixQ, od_min, od_int1, od_intB, od_listT, od_tupT, od_cutHQ, List.length_cons, List.length_nil, if_true, true_and, and_true, Bool.not_true, Bool.not_false, Bool.false_eq_true, if_false, ite_true, ite_false, decide_true, decide_false, reduceIte, Option.some.injEq, exists_eq_left', Int.reduceLT, Int.reduceLE, Int.reduceToNat, and_self, true_or, or_true]
          rw [od_rep (by omega) (by omega)]
          exact k
        · obtain ⟨tt, e, hl2, hb⟩ := strs_map (B := 100) (f := fun x => match x with
            | .int k => .str (rep ch (k + 1))
            | _ => .non) (rngItems 0 1 (m : Int).toNat) (fun x hx => by
            obtain ⟨j, hj, rfl⟩ := rng_int hx
            exact ⟨_, rfl, by rw [rep_len]; omega⟩)
          rw [List.nil_append, e] at h3
          try simp only [wpCs, wpC, wpT, wpE, wpEs, wpI, asg1, List.getElem?_cons_zero, List.getElem?_cons_succ, List.set_cons_zero, List.set_cons_succ, od_addI, od_addS, od_sub, od_mulI, od_div, od_mod, od_neg, od_not, od_eqI, od_neI, od_ltI, od_le, od_gt, od_ge, od_isN, od_notN, od_inS, od_ninS, od_tup, od_lst, od_dnT, od_lenS, od_lenT, od_lenQ, od_ixT, od_ixQ, od_min, od_int1, od_intB, od_listT, od_tupT, od_cutHQ, List.length_cons, List.length_nil, if_true, true_and, and_true, Bool.not_true, Bool.not_false, Bool.false_eq_true, if_false, ite_true, ite_false, decide_true, decide_false, reduceIte, Option.some.injEq, exists_eq_left', Int.reduceLT, Int.reduceLE, Int.reduceToNat, and_self, true_or, or_true]
          exact hq _ _ tt ((gS1.trans g2).trans g3) h3 (by rw [hl2, len_rng]; omega) (fun w => absurd w (by omega))
      · simp only [k2, wpCs, wpC, wpT, wpE, wpEs, wpI, asg1, List.getElem?_cons_zero, List.getElem?_cons_succ, List.set_cons_zero, List.set_cons_succ, od_addI, od_addS, od_sub, od_mulI, od_div, od_mod, od_neg, od_not, od_eqI, od_neI, od_ltI, od_le, od_gt, od_ge, od_isN, od_notN, od_inS, od_ninS, od_tup, od_lst, od_dnT, od_lenS, od_lenT, od_lenQ, od_ixT, od_ixQ, od_min, od_int1, od_intB, od_listT, od_tupT, od_cutHQ, List.length_cons, List.length_nil, if_true, true_and, and_true, Bool.not_true, Bool.not_false, Bool.false_eq_true, if_false, ite_true, ite_false, decide_true, decide_false, reduceIte, Option.some.injEq, exists_eq_left', Int.reduceLT, Int.reduceLE, Int.reduceToNat, and_self, true_or, or_true]
        exact hq _ _ ss (gS1.trans g2) h2 hl fun _ => hnd
    · simp only [k1, wpCs, wpC, wpT, wpE, wpEs, wpI, asg1, List.getElem?_cons_zero, List.getElem?_cons_succ, List.set_cons_zero, List.set_cons_succ, od_addI, od_addS, od_sub, od_mulI, od_div, od_mod, od_neg, od_not, od_eqI, od_neI, od_ltI, od_le, od_gt, od_ge, od_isN, od_notN, od_inS, od_ninS, od_tup, od_lst, od_dnT, od_lenS, od_lenT, od_lenQ, od_ixT, od_ixQ, od_min, od_int1, od_intB, od_listT, od_tupT, od_cutHQ, List.length_cons, List.length_nil, if_true, true_and, and_true, Bool.not_true, Bool.not_false, Bool.false_eq_true, if_false, ite_true, ite_false, decide_true, decide_false, reduceIte, Option.some.injEq, exists_eq_left', Int.reduceLT, Int.reduceLE, Int.reduceToNat, and_self, true_or, or_true]
      exact hq _ _ ss (gS1.trans g2) h2 hl fun _ => hnd
theorem p60 : opD TT .pow [.int 10, .int 60] S Q = Q (.int 1000000000000000000000000000000000000000000000000000000000000) S := by
  rw [od_pow]
  have e : (10 : Int) ^ (60 : Int).toNat = 1000000000000000000000000000000000000000000000000000000000000 := by decide
  rw [e]
  simp only [show (0 : Int) ≤ 60 ∧ (60 : Int) ≤ 1000000 ∧ (10 : Int).natAbs < 2 ^ 64 by decide, true_and]
/-! ### rows -/
abbrev Rw := K2 × Nat × List Nm
def kvs (m : List Rw) : List (D × D) := m.map fun e => (kd e.1, .ref e.2.1)
structure Rows (S : Sto) (rd : Nat) (m : List Rw) : Prop where
  at_ : S[rd]? = some (.dic true false (kvs m))
  each : ∀ e ∈ m, S[e.2.1]? = some (.lst (e.2.2.map .str))
  nd : (m.map (·.1)).Nodup
/-- bounds -/
structure Bd (m : List Rw) (a b : Nat) : Prop where
  len : m.length ≤ a
  sm : ∀ e ∈ m, e.2.2.length ≤ b
/-- where they stand -/
structure Fr (base : Nat) (r : Nat) (m : List Rw) : Prop where
  d : base ≤ r
  l : ∀ e ∈ m, base ≤ e.2.1
  nd : (m.map (·.2.1)).Nodup
theorem Rows.gr {S' : Sto} {rd : Nat} {m : List Rw} (h : Rows S rd m) (g : Gr S S') : Rows S' rd m := ⟨g _ _ h.at_, fun e he => g _ _ (h.each e he), h.nd⟩
theorem Fr.low {a b r : Nat} {m : List Rw} (h : Fr b r m) (hab : a ≤ b) : Fr a r m := ⟨Nat.le_trans hab h.d, fun e he => Nat.le_trans hab (h.l e he), h.nd⟩
theorem look_mem {m : List Rw} (nd : (m.map (·.1)).Nodup) {e : Rw} (he : e ∈ m) : look (kvs m) (kd e.1) = some (.ref e.2.1) := by
  induction m with
  | nil => cases he
  | cons f m ih =>
    unfold look kvs at ih ⊢
    rw [List.map_cons, List.find?_cons]
    rw [List.map_cons, List.nodup_cons] at nd
    by_cases h : f.1 = e.1
    · rcases List.mem_cons.mp he with rfl | he
      · simp
      · exact absurd (List.mem_map.mpr ⟨e, he, h.symm⟩) nd.1
    · have h2 : ¬ kd f.1 = kd e.1 := fun z => h (kd_inj z)
      simp only [h2, decide_false]
      rcases List.mem_cons.mp he with rfl | he
      · exact absurd rfl h
      · exact ih nd.2 he
theorem look_none {m : List Rw} {k : K2} (h : k ∉ m.map (·.1)) : look (kvs m) (kd k) = none := by
  unfold look
  rw [List.find?_eq_none.mpr]
  · rfl
  · intro p hp
    obtain ⟨e, he, rfl⟩ := List.mem_map.mp hp
    simp only [decide_eq_true_eq]
    intro z
    exact h (List.mem_map.mpr ⟨e, he, kd_inj z⟩)
/-- the row of a shelf -/
def cont (m : List Rw) (k : K2) : Option (List Nm) := (m.find? fun e => decide (e.1 = k)).map (·.2.2)
theorem cont_mem {m : List Rw} (nd : (m.map (·.1)).Nodup) {e : Rw} (he : e ∈ m) : cont m e.1 = some e.2.2 := by
  induction m with
  | nil => cases he
  | cons f m ih =>
    unfold cont at ih ⊢
    rw [List.find?_cons]
    rw [List.map_cons, List.nodup_cons] at nd
    by_cases h : f.1 = e.1
    · rcases List.mem_cons.mp he with rfl | he
      · simp
      · exact absurd (List.mem_map.mpr ⟨e, he, h.symm⟩) nd.1
    · simp only [h, decide_false]
      rcases List.mem_cons.mp he with rfl | he
      · exact absurd rfl h
      · exact ih nd.2 he
theorem cont_some {m : List Rw} {k : K2} {l : List Nm} (h : cont m k = some l) : ∃ e ∈ m, e.1 = k ∧ e.2.2 = l := by
  unfold cont at h
  obtain ⟨e, he, rfl⟩ := Option.map_eq_some_iff.mp h
  exact ⟨e, List.mem_of_find?_eq_some he, by simpa using List.find?_some he, rfl⟩
theorem cont_none {m : List Rw} {k : K2} : cont m k = none ↔ k ∉ m.map (·.1) := by
  unfold cont
  rw [Option.map_eq_none_iff, List.find?_eq_none]
  constructor
  · intro h z
    obtain ⟨e, he, ek⟩ := List.mem_map.mp z
    exact h e he (by simpa using ek)
  · intro h e he z
    exact h (List.mem_map.mpr ⟨e, he, by simpa using z⟩)
def Same (mf md : List Rw) : Prop := ∀ k, cont mf k = cont md k
theorem Same.len {mf md : List Rw} (h : Same mf md) (n1 : (mf.map (·.1)).Nodup) (n2 : (md.map (·.1)).Nodup) : mf.length = md.length := by
  have key : ∀ a b : List Rw, Same a b → (a.map (·.1)).Nodup → a.length ≤ b.length := fun a b hab na => by
    have := nodup_le (xs := a.map (·.1)) (ys := b.map (·.1)) na fun k hk => by
      rcases Classical.em (k ∈ b.map (·.1)) with z | z
      · exact z
      · exact absurd hk (cont_none.mp ((hab k).trans (cont_none.mpr z)))
    simpa using this
  exact Nat.le_antisymm (key _ _ h n1) (key _ _ (fun k => (h k).symm) n2)
def cnt (m : List Rw) : List (K2 × List Nm) := m.map fun e => (e.1, e.2.2)
theorem cont_cnt (m : List Rw) (k : K2) : cont m k = ((cnt m).find? fun e => decide (e.1 = k)).map (·.2) := by
  unfold cont cnt
  rw [List.find?_map, Option.map_map]
  rfl
theorem same_cnt {a b : List Rw} (h : cnt a = cnt b) : Same a b := fun k => by rw [cont_cnt, cont_cnt, h]
theorem put_new {m : List Rw} {k : K2} {r : Nat} (l : List Nm) (h : k ∉ m.map (·.1)) : put (kvs m) (kd k) (.ref r) = kvs (m ++ [(k, r, l)]) := by
  unfold put
  rw [if_neg]
  · simp [kvs]
  · simp only [List.any_eq_true, decide_eq_true_eq]
    rintro ⟨q, hq, e⟩
    obtain ⟨f, hf, rfl⟩ := List.mem_map.mp hq
    exact h (List.mem_map.mpr ⟨f, hf, kd_inj e⟩)
abbrev lockOb (m : List Rw) : Ob := .dic true true (kvs m)
theorem lock_each {rd : Nat} {m : List Rw} (h : Rows S rd m) {e : Rw} (he : e ∈ m) : (S.set rd (lockOb m))[e.2.1]? = some (.lst (e.2.2.map .str)) := by
  have h1 := h.each e he
  have : rd ≠ e.2.1 := fun z => by rw [← z, h.at_] at h1; cases h1
  rw [List.getElem?_set_ne this]; exact h1
theorem lock_at {rd : Nat} {m : List Rw} (h : Rows S rd m) : (S.set rd (lockOb m))[rd]? = some (lockOb m) := at_set h.at_
theorem keys_cnt (m : List Rw) : (cnt m).map Prod.fst = m.map (·.1) := by unfold cnt; rw [List.map_map]; rfl
theorem keys_kvs (m : List Rw) : (kvs m).map (·.1) = m.map fun e => kd e.1 := by unfold kvs; rw [List.map_map]; rfl
theorem set_back {rd : Nat} {o l : Ob} (h : S[rd]? = some o) : (S.set rd l).set rd o = S := by
  rw [List.set_set]
  apply List.ext_getElem?
  intro q
  by_cases hq : q = rd
  · subst hq; rw [at_set h, h]
  · rw [List.getElem?_set_ne (Ne.symm hq)]
/-- new rows made of some walked: with the test, and what each gives -/
theorem nk_take {m : List Rw} (nd : (m.map (·.1)).Nodup) {j : Nat} {e : Rw} (em : m[j]? = some e) {f : Rw} (hf : f ∈ m.take j) : f.1 ≠ e.1 := by
  intro ef
  have hj : j < m.length := (List.getElem?_eq_some_iff.mp em).1
  obtain ⟨i, hi, rfl⟩ := List.mem_iff_getElem.mp hf
  have hi' : i < j := by simp at hi; omega
  rw [List.getElem_take] at ef
  have ej : m[j] = e := by rw [List.getElem?_eq_getElem hj] at em; exact Option.some.inj em
  have := List.nodup_iff_pairwise_ne.mp nd
  rw [List.pairwise_iff_getElem] at this
  exact this i j (by simp; omega) (by simpa using hj) hi' (by simp only [List.getElem_map]; rw [ef, ej])
def gW (f : List Nm → List Nm) (c : List (K2 × List Nm)) : List (K2 × List Nm) := (c.map fun e => (e.1, f e.2))
theorem copy_body {rd : Nat} {m : List Rw} {a b : Nat} (h : Rows S rd m) (bd : Bd m a b) (ha : a ≤ 1000) (hb : b ≤ 1000) (hq : ∀ S' r m', Gr S S' → Rows S' r m' → cnt m' = cnt m → Fr S.length r m' → Bd m' a b → Q (.ref r) S') : wpCs TT (wpCall TT FT n) none b_copied [some (.ref rd), none, none] S (Kc Q) EX := by
  unfold b_copied
  simp only [wpCs, wpC, wpT, wpE, wpEs, wpI, asg1, List.getElem?_cons_zero, List.getElem?_cons_succ, List.set_cons_zero, List.set_cons_succ, od_addI, od_addS, od_sub, od_mulI, od_div, od_mod, od_neg, od_not, od_eqI, od_neI, od_ltI, od_le, od_gt, od_ge, od_isN, od_notN, od_inS, od_ninS, od_tup, od_lst, od_dnT, od_lenS, od_lenT, od_lenQ, od_ixT, od_ixQ, od_min, od_int1, od_intB, od_listT, od_tupT, od_cutHQ, List.length_cons, List.length_nil, if_true, true_and, and_true, Bool.not_true, Bool.not_false, Bool.false_eq_true, if_false, ite_true, ite_false, decide_true, decide_false, reduceIte, Option.some.injEq, exists_eq_left', Int.reduceLT, Int.reduceLE, Int.reduceToNat, and_self, true_or, or_true]
  have h1 : (S ++ [Ob.dic true false []])[rd]? = some (.dic true false (kvs m)) := Gr.push _ _ _ _ h.at_
  rw [dicAt_of h1]
  simp only
  have hlt : rd < S.length := at_lt h.at_
  have eB : (S ++ [Ob.dic true false []]).set rd (lockOb m) = S.set rd (lockOb m) ++ [Ob.dic true false []] := by rw [List.set_append_left _ _ hlt]
  have lB : (S.set rd (lockOb m)).length = S.length := List.length_set
  rw [keys_kvs]
  refine foN_ix (fun j ρ S' => Gr (S.set rd (lockOb m)) S' ∧ ∃ m' e2, S'[S.length]? = some (.dic true false (kvs m')) ∧ cnt m' = cnt (m.take j) ∧ (∀ e ∈ m', S'[e.2.1]? = some (.lst (e.2.2.map .str)) ∧ S.length < e.2.1) ∧ (m'.map (·.2.1)).Nodup ∧ ρ = [some (.ref rd), some (.ref S.length), e2]) (fun j ρ S' hP => hP.1 _ _ (lock_at h)) ?_ ?_ _ _ ⟨?_, [], none, ?_, rfl, by simp, by simp, rfl⟩
  · rintro j x ρ S' K' hx ⟨g, m', e2, d1, d2, d3, d4, rfl⟩ hnx hrt
    rw [List.getElem?_map] at hx
    cases em : m[j]? with
    | none => rw [em] at hx; cases hx
    | some e =>
      rw [em] at hx
      cases hx
      refine ⟨_, rfl, ?_⟩
      have he : e ∈ m := List.mem_of_getElem? em
      have a1 := g _ _ (lock_at h)
      have a2 := g _ _ (lock_each h he)
      simp only [wpCs, wpC, wpT, wpE, wpEs, wpI, asg1, List.getElem?_cons_zero, List.getElem?_cons_succ, List.set_cons_zero, List.set_cons_succ, od_addI, od_addS, od_sub, od_mulI, od_div, od_mod, od_neg, od_not, od_eqI, od_neI, od_ltI, od_le, od_gt, od_ge, od_isN, od_notN, od_inS, od_ninS, od_tup, od_lst, od_dnT, od_lenS, od_lenT, od_lenQ, od_ixT, od_ixQ, od_min, od_int1, od_intB, od_listT, od_tupT, od_cutHQ, List.length_cons, List.length_nil, if_true, true_and, and_true, Bool.not_true, Bool.not_false, Bool.false_eq_true, if_false, ite_true, ite_false, decide_true, decide_false, reduceIte, Option.some.injEq, exists_eq_left', Int.reduceLT, Int.reduceLE, Int.reduceToNat, and_self, true_or, or_true, od_ixD a1 (keyOk_kd e.1), look_mem h.nd he, od_listL a2]
      rw [setW_dic ((Gr.push S' [Ob.lst (e.2.2.map .str)]) _ _ d1)]
      have hk : m'.map (·.1) = (m.take j).map (·.1) := by
        have := congrArg (List.map Prod.fst) d2
        rw [keys_cnt, keys_cnt] at this; exact this
      have hnk : e.1 ∉ m'.map (·.1) := by
        rw [hk]
        intro z
        obtain ⟨f, hf, ef⟩ := List.mem_map.mp z
        exact nk_take h.nd em hf ef
      refine ⟨keyOk_kd _, ?_, ?_⟩
      · have := congrArg List.length d2
        have hm := bd.len
        simp [cnt] at this
        show (kvs m').length < 16777216
        simp only [kvs, List.length_map]; omega
      · rw [put_new e.2.2 hnk]
        have hlen : S.length < S'.length := at_lt d1
        refine hnx _ _ ⟨(g.trans (Gr.push _ _)).set (by rw [lB]; exact Nat.le_refl _), _, _, at_set ((Gr.push S' [Ob.lst (e.2.2.map .str)]) _ _ d1), ?_, ?_, ?_, rfl⟩
        · have : m.take (j + 1) = m.take j ++ [e] := by
            rw [List.take_add_one, em]; rfl
          rw [this]
          unfold cnt at d2 ⊢
          rw [List.map_append, List.map_append, d2]; rfl
        · intro f hf
          rcases List.mem_append.mp hf with hf | hf
          · obtain ⟨f1, f2⟩ := d3 f hf
            refine ⟨?_, f2⟩
            rw [List.getElem?_set_ne (by omega)]
            exact Gr.push _ _ _ _ f1
          · rw [List.mem_singleton] at hf
            subst hf
            refine ⟨?_, hlen⟩
            rw [List.getElem?_set_ne (by simp only; omega)]
            exact at_push _ _
        · rw [List.map_append]
          refine List.nodup_append.mpr ⟨d4, by simp, fun a ha b hb e' => ?_⟩
          simp at hb
          obtain ⟨f, hf, rfl⟩ := List.mem_map.mp ha
          have := at_lt (d3 f hf).1
          omega
  · rintro ρ S' ⟨g, m', e2, d1, d2, d3, d4, rfl⟩
    refine ⟨g _ _ (lock_at h), ?_⟩
    simp only [wpCs, wpC, wpT, wpE, wpEs, wpI, asg1, List.getElem?_cons_zero, List.getElem?_cons_succ, List.set_cons_zero, List.set_cons_succ, od_addI, od_addS, od_sub, od_mulI, od_div, od_mod, od_neg, od_not, od_eqI, od_neI, od_ltI, od_le, od_gt, od_ge, od_isN, od_notN, od_inS, od_ninS, od_tup, od_lst, od_dnT, od_lenS, od_lenT, od_lenQ, od_ixT, od_ixQ, od_min, od_int1, od_intB, od_listT, od_tupT, od_cutHQ, List.length_cons, List.length_nil, if_true, true_and, and_true, Bool.not_true, Bool.not_false, Bool.false_eq_true, if_false, ite_true, ite_false, decide_true, decide_false, reduceIte, Option.some.injEq, exists_eq_left', Int.reduceLT, Int.reduceLE, Int.reduceToNat, and_self, true_or, or_true]
    have hm : (m.map fun e => kd e.1).length = m.length := List.length_map _
    rw [hm, List.take_length] at d2
    have hk : m'.map (·.1) = m.map (·.1) := by
      have := congrArg (List.map Prod.fst) d2
      rw [keys_cnt, keys_cnt] at this; exact this
    refine hq _ _ m' (Gr.unlock h.at_ g) ⟨?_, fun e he => ?_, by rw [hk]; exact h.nd⟩ d2 ⟨Nat.le_refl _, fun e he => Nat.le_of_lt (d3 e he).2, d4⟩ ⟨?_, fun e he => ?_⟩
    · rw [List.getElem?_set_ne (by omega)]; exact d1
    · obtain ⟨f1, f2⟩ := d3 e he
      rw [List.getElem?_set_ne (by omega)]; exact f1
    · have := congrArg List.length hk
      simp at this; have := bd.len; omega
    · have h2 : (e.1, e.2.2) ∈ cnt m := by rw [← d2]; exact List.mem_map.mpr ⟨e, he, rfl⟩
      obtain ⟨f, hf, ef⟩ := List.mem_map.mp h2
      have := bd.sm f hf
      simp at ef
      rw [← ef.2]; exact this
  · rw [eB]; exact Gr.push _ _
  · rw [eB]
    have := at_push (S.set rd (lockOb m)) (Ob.dic true false [])
    rw [lB] at this; exact this
theorem copy_eq : b__law_copy = b_copied := rfl
theorem sp_copied {rd : Nat} {m : List Rw} {a b : Nat} (h : Rows S rd m) (bd : Bd m a b) (ha : a ≤ 1000) (hb : b ≤ 1000) (hq : ∀ S' r m', Gr S S' → Rows S' r m' → cnt m' = cnt m → Fr S.length r m' → Bd m' a b → Q (.ref r) S') : wpCall TT FT (n + 1) 0 [.ref rd] S Q EX := by
  rw [call0]; exact ⟨rfl, copy_body h bd ha hb hq⟩
theorem sp_copy {rd : Nat} {m : List Rw} {a b : Nat} (h : Rows S rd m) (bd : Bd m a b) (ha : a ≤ 1000) (hb : b ≤ 1000) (hq : ∀ S' r m', Gr S S' → Rows S' r m' → cnt m' = cnt m → Fr S.length r m' → Bd m' a b → Q (.ref r) S') : wpCall TT FT (n + 1) 4 [.ref rd] S Q EX := by
  rw [call4, copy_eq]; exact ⟨rfl, copy_body h bd ha hb hq⟩
theorem isD {r : Nat} {t : Bool} {kv : List (D × D)} (h : S[r]? = some (.dic t false kv)) : opD TT (.isi [.ty .dct]) [.ref r] S Q = Q (.bl true) S := by
  rw [od_isi]
  have : clsOf TT S (.ref r) (.ty .dct) = some true := by simp [clsOf, tyD, h, clsT, Ty.le]
  simp [this]
theorem sp_same {rf rd : Nat} {mf md : List Rw} (hf : Rows S rf mf) (hd : Rows S rd md) (hne : rd ≠ rf) (hc : Same mf md) (hq : Q (.bl true) S) : wpCall TT FT (n + 1) 5 [.ref rf, .ref rd] S Q EX := by
  rw [call5]
  refine ⟨rfl, ?_⟩
  unfold b__law_rows_same
  have hl : mf.length = md.length := hc.len hf.nd hd.nd
  have l1 : ∀ m : List Rw, (kvs m).length = m.length := fun m => by simp [kvs]
  simp only [wpCs, wpC, wpT, wpE, wpEs, wpI, asg1, List.getElem?_cons_zero, List.getElem?_cons_succ, List.set_cons_zero, List.set_cons_succ, od_addI, od_addS, od_sub, od_mulI, od_div, od_mod, od_neg, od_not, od_eqI, od_neI, od_ltI, od_le, od_gt, od_ge, od_isN, od_notN, od_inS, od_ninS, od_tup, od_lst, od_dnT, od_lenS, od_lenT, od_lenQ, od_ixT, od_ixQ, od_min, od_int1, od_intB, od_listT, od_tupT, od_cutHQ, List.length_cons, List.length_nil, if_true, true_and, and_true, Bool.not_true, Bool.not_false, Bool.false_eq_true, if_false, ite_true, ite_false, decide_true, decide_false, reduceIte, Option.some.injEq, exists_eq_left', Int.reduceLT, Int.reduceLE, Int.reduceToNat, and_self, true_or, or_true, isD hf.at_, od_lenD hf.at_, od_lenD hd.at_, l1, hl]
  rw [dicAt_of hd.at_]
  simp only
  rw [keys_kvs]
  refine foN_ix (fun j ρ S' => S' = S.set rd (lockOb md) ∧ ∃ e2, ρ = [some (.ref rf), some (.ref rd), e2]) (fun j ρ S' hP => by rw [hP.1]; exact lock_at hd) ?_ ?_ _ _ ⟨rfl, _, rfl⟩
  · rintro j x ρ S' K' hx ⟨rfl, e2, rfl⟩ hnx hrt
    rw [List.getElem?_map] at hx
    cases em : md[j]? with
    | none => rw [em] at hx; cases hx
    | some e =>
      rw [em] at hx
      cases hx
      refine ⟨_, rfl, ?_⟩
      have he : e ∈ md := List.mem_of_getElem? em
      obtain ⟨f, hfm, k1, k2⟩ := cont_some ((hc e.1).trans (cont_mem hd.nd he))
      have a1 : (S.set rd (lockOb md))[rf]? = some (.dic true false (kvs mf)) := by rw [List.getElem?_set_ne hne]; exact hf.at_
      have a2 := lock_at hd
      have a3 := lock_each hd he
      have nf : rd ≠ f.2.1 := fun z => by have := hf.each _ hfm; rw [← z, hd.at_] at this; cases this
      have a4 : (S.set rd (lockOb md))[f.2.1]? = some (.lst (e.2.2.map .str)) := by rw [List.getElem?_set_ne nf, ← k2]; exact hf.each _ hfm
      have lf : look (kvs mf) (kd e.1) = some (.ref f.2.1) := by rw [← k1]; exact look_mem hf.nd hfm
      have ld := look_mem hd.nd he
      simp only [wpCs, wpC, wpT, wpE, wpEs, wpI, asg1, List.getElem?_cons_zero, List.getElem?_cons_succ, List.set_cons_zero, List.set_cons_succ, od_addI, od_addS, od_sub, od_mulI, od_div, od_mod, od_neg, od_not, od_eqI, od_neI, od_ltI, od_le, od_gt, od_ge, od_isN, od_notN, od_inS, od_ninS, od_tup, od_lst, od_dnT, od_lenS, od_lenT, od_lenQ, od_ixT, od_ixQ, od_min, od_int1, od_intB, od_listT, od_tupT, od_cutHQ, List.length_cons, List.length_nil, if_true, true_and, and_true, Bool.not_true, Bool.not_false, Bool.false_eq_true, if_false, ite_true, ite_false, decide_true, decide_false, reduceIte, Option.some.injEq, exists_eq_left', Int.reduceLT, Int.reduceLE, Int.reduceToNat, and_self, true_or, or_true, od_ninD a1 (keyOk_kd e.1), lf, Option.isSome_some, od_ixD a1 (keyOk_kd e.1), isL a4, od_ixD a2 (keyOk_kd e.1), ld]
      rw [od_ne]
      refine ⟨true, by rw [eq_strs a4 a3]; simp, ?_⟩
      simp only [wpCs, wpC, wpT, wpE, wpEs, wpI, asg1, List.getElem?_cons_zero, List.getElem?_cons_succ, List.set_cons_zero, List.set_cons_succ, od_addI, od_addS, od_sub, od_mulI, od_div, od_mod, od_neg, od_not, od_eqI, od_neI, od_ltI, od_le, od_gt, od_ge, od_isN, od_notN, od_inS, od_ninS, od_tup, od_lst, od_dnT, od_lenS, od_lenT, od_lenQ, od_ixT, od_ixQ, od_min, od_int1, od_intB, od_listT, od_tupT, od_cutHQ, List.length_cons, List.length_nil, if_true, true_and, and_true, Bool.not_true, Bool.not_false, Bool.false_eq_true, if_false, ite_true, ite_false, decide_true, decide_false, reduceIte, Option.some.injEq, exists_eq_left', Int.reduceLT, Int.reduceLE, Int.reduceToNat, and_self, true_or, or_true]
      exact hnx _ _ ⟨rfl, _, rfl⟩
  · rintro ρ S' ⟨rfl, e2, rfl⟩
    refine ⟨lock_at hd, ?_⟩
    simp only [wpCs, wpC, wpT, wpE, wpEs, wpI, asg1, List.getElem?_cons_zero, List.getElem?_cons_succ, List.set_cons_zero, List.set_cons_succ, od_addI, od_addS, od_sub, od_mulI, od_div, od_mod, od_neg, od_not, od_eqI, od_neI, od_ltI, od_le, od_gt, od_ge, od_isN, od_notN, od_inS, od_ninS, od_tup, od_lst, od_dnT, od_lenS, od_lenT, od_lenQ, od_ixT, od_ixQ, od_min, od_int1, od_intB, od_listT, od_tupT, od_cutHQ, List.length_cons, List.length_nil, if_true, true_and, and_true, Bool.not_true, Bool.not_false, Bool.false_eq_true, if_false, ite_true, ite_false, decide_true, decide_false, reduceIte, Option.some.injEq, exists_eq_left', Int.reduceLT, Int.reduceLE, Int.reduceToNat, and_self, true_or, or_true]
    rw [set_back hd.at_]; exact hq
theorem op_add : opF TT .add = oAdd := rfl
theorem od_addL {r q : Nat} {a b : List D} (h1 : S[r]? = some (.lst a)) (h2 : S[q]? = some (.lst b)) : opD TT .add [.ref r, .ref q] S Q = (a.length + b.length ≤ LIM ∧ Q (.ref S.length) (S ++ [.lst (a ++ b)])) := od_ite (z := (.ref S.length, S ++ [.lst (a ++ b)])) (by
  rw [op_add]; simp only [oAdd, h1, h2])
def putR (m : List Rw) (k : K2) (r : Nat) (l : List Nm) : List Rw := if (m.any fun e => decide (e.1 = k)) = true then m.map fun e => if e.1 = k then (e.1, r, l) else e else m ++ [(k, r, l)]
theorem put_kvsR (m : List Rw) (k : K2) (r : Nat) (l : List Nm) : put (kvs m) (kd k) (.ref r) = kvs (putR m k r l) := by
  have ha : ((kvs m).any fun p => decide (p.1 = kd k)) = (m.any fun p => decide (p.1 = k)) := by
    unfold kvs
    induction m with
    | nil => rfl
    | cons p m ih =>
      rw [List.map_cons, List.any_cons, List.any_cons, ih]
      congr 1
      by_cases h : p.1 = k
      · subst h; simp
      · have : ¬ kd p.1 = kd k := fun z => h (kd_inj z)
        simp [h, this]
  unfold put putR
  rw [ha]
  split
  · unfold kvs
    rw [List.map_map, List.map_map]
    congr 1
    funext p
    simp only [Function.comp]
    by_cases h : p.1 = k
    · subst h; simp
    · have : ¬ kd p.1 = kd k := fun z => h (kd_inj z)
      simp [h, this]
  · simp [kvs]
theorem mem_putR {m : List Rw} {k : K2} {r : Nat} {l : List Nm} {e : Rw} (h : e ∈ putR m k r l) : e ∈ m ∨ (e.2.1 = r ∧ e.2.2 = l) := by
  unfold putR at h
  split at h
  · obtain ⟨f, hf, ef⟩ := List.mem_map.mp h
    split at ef
    · subst ef; exact .inr ⟨rfl, rfl⟩
    · subst ef; exact .inl hf
  · rcases List.mem_append.mp h with h | h
    · exact .inl h
    · rw [List.mem_singleton.mp h]; exact .inr ⟨rfl, rfl⟩
theorem nd_putR {m : List Rw} {k : K2} {r : Nat} {l : List Nm} (h : (m.map (·.1)).Nodup) : ((putR m k r l).map (·.1)).Nodup := by
  unfold putR
  split
  · have : (m.map fun e => if e.1 = k then (e.1, r, l) else e).map (·.1) = m.map (·.1) := by
      rw [List.map_map]
      congr 1
      funext e
      simp only [Function.comp]
      split <;> rfl
    rw [this]; exact h
  · rename_i hn
    rw [List.map_append]
    refine List.nodup_append.mpr ⟨h, by simp, fun a ha b hb e => ?_⟩
    simp at hb
    subst hb; subst e
    obtain ⟨f, hf, ef⟩ := List.mem_map.mp ha
    exact hn (List.any_eq_true.mpr ⟨f, hf, by simpa using ef⟩)
theorem len_putR (m : List Rw) (k : K2) (r : Nat) (l : List Nm) : (putR m k r l).length ≤ m.length + 1 := by
  unfold putR
  split <;> simp
theorem refs_putR {m : List Rw} {k : K2} {r : Nat} {l : List Nm} (nd : (m.map (·.1)).Nodup) (h : (m.map (·.2.1)).Nodup) (hr : ∀ e ∈ m, e.2.1 ≠ r) : ((putR m k r l).map (·.2.1)).Nodup := by
  unfold putR
  split
  · rename_i hx
    clear hx
    induction m with
    | nil => simp
    | cons f t ih =>
      rw [List.map_cons, List.nodup_cons] at nd h
      have iht := ih nd.2 h.2 fun e he => hr e (by simp [he])
      rw [List.map_cons, List.map_cons, List.nodup_cons]
      refine ⟨?_, iht⟩
      intro hin
      obtain ⟨g, hg, eg⟩ := List.mem_map.mp hin
      obtain ⟨p, hp, ep⟩ := List.mem_map.mp hg
      by_cases hfk : f.1 = k
      · rw [if_pos hfk] at eg
        by_cases hpk : p.1 = k
        · exact nd.1 (List.mem_map.mpr ⟨p, hp, hpk.trans hfk.symm⟩)
        · rw [if_neg hpk] at ep
          subst ep
          exact hr p (by simp [hp]) eg
      · rw [if_neg hfk] at eg
        by_cases hpk : p.1 = k
        · rw [if_pos hpk] at ep
          subst ep
          exact hr f (by simp) eg.symm
        · rw [if_neg hpk] at ep
          subst ep
          exact h.1 (List.mem_map.mpr ⟨p, hp, eg⟩)
  · rw [List.map_append]
    refine List.nodup_append.mpr ⟨h, by simp, fun a ha b hb e => ?_⟩
    simp at hb
    obtain ⟨f, hf, rfl⟩ := List.mem_map.mp ha
    exact hr f hf (e.trans hb)
theorem cont_putR {m : List Rw} {k k' : K2} {r : Nat} {l : List Nm} : cont (putR m k r l) k' = if k' = k then some l else cont m k' := by
  unfold putR
  split
  · rename_i hx
    have : ∀ m : List Rw, cont (m.map fun e => if e.1 = k then (e.1, r, l) else e) k' = if k' = k ∧ k ∈ m.map (·.1) then some l else cont m k' := by
      intro m
      induction m with
      | nil => simp [cont]
      | cons f t ih =>
        unfold cont at ih ⊢
        rw [List.map_cons, List.find?_cons, List.find?_cons]
        by_cases hfk : f.1 = k
        · rw [if_pos hfk]
          by_cases hk : k' = k
          · subst hk; simp [hfk]
          · have : ¬ f.1 = k' := fun z => hk (z.symm.trans hfk)
            simp only [this, decide_false, ih, hk, false_and, if_false]
        · rw [if_neg hfk]
          by_cases hk : f.1 = k'
          · have : ¬ k' = k := fun z => hfk (hk.trans z)
            simp [hk, this]
          · simp only [hk, decide_false, ih]
            by_cases hkk : k' = k
            · subst hkk
              have : (k' ∈ (f :: t).map (·.1)) = (k' ∈ t.map (·.1)) := by
                have h2 : ¬ k' = f.1 := fun z => hk z.symm
                simp [h2]
              simp only [this]
            · simp [hkk]
    rw [this]
    have hk : k ∈ m.map (·.1) := by
      obtain ⟨e, he, ee⟩ := List.any_eq_true.mp hx
      exact List.mem_map.mpr ⟨e, he, by simpa using ee⟩
    simp [hk]
  · rename_i hx
    have hk : k ∉ m.map (·.1) := fun z => by
      obtain ⟨e, he, ee⟩ := List.mem_map.mp z
      exact hx (List.any_eq_true.mpr ⟨e, he, by simpa using ee⟩)
    unfold cont
    rw [List.find?_append]
    by_cases hkk : k' = k
    · subst hkk
      have := cont_none.mpr hk
      unfold cont at this
      rw [Option.map_eq_none_iff] at this
      rw [this]; simp
    · rw [if_neg hkk]
      have : ¬ k = k' := fun z => hkk z.symm
      cases m.find? (fun e => decide (e.1 = k')) with
      | none => simp [this]
      | some e => simp
theorem op_listOf' : opF TT .listOf = orF oListOf oListOfD := rfl
theorem od_listD {r : Nat} {kv : List (D × D)} (h : S[r]? = some (.dic true false kv)) : opD TT .listOf [.ref r] S Q = Q (.ref S.length) (S ++ [.lst (kv.map (·.1))]) := od_some (z := (.ref S.length, S ++ [.lst (kv.map (·.1))])) (by
  rw [op_listOf']; simp [orF, oListOf, sq_dic h, oListOfD, h])
/-! ### row, shelves -/
theorem nodup_get {α : Type} {l : List α} (nd : l.Nodup) {i j : Nat} (hi : i < l.length) (hj : j < l.length) (e : l[i] = l[j]) : i = j := by
  have h := List.nodup_iff_pairwise_ne.mp nd
  rw [List.pairwise_iff_getElem] at h
  rcases Nat.lt_trichotomy i j with c | c | c
  · exact absurd e (h i j hi hj c)
  · exact c
  · exact absurd e.symm (h j i hj hi c)
theorem row_nodup {U : List Nm} (hU : U.length = 26) (nd : U.Nodup) {N st : Int} (h : st ∈ ([1, 3, 5, 7, 9, 11, 15, 17, 19, 21, 23, 25] : List Int)) {m : Nat} (hm : m ≤ 26) : ((List.range m).map fun k : Nat => U.getD ((N + st * (k : Int)) % 26).toNat []).Nodup := by
  refine nodup_rng fun i j hi hj e => step_inj h (by omega) (by omega) (b := N) ?_
  have a0 : 0 ≤ (N + st * (i : Int)) % 26 := Int.emod_nonneg _ (by decide)
  have a1 : (N + st * (i : Int)) % 26 < 26 := Int.emod_lt_of_pos _ (by decide)
  have b0 : 0 ≤ (N + st * (j : Int)) % 26 := Int.emod_nonneg _ (by decide)
  have b1 : (N + st * (j : Int)) % 26 < 26 := Int.emod_lt_of_pos _ (by decide)
  generalize (N + st * (i : Int)) % 26 = p at a0 a1 e ⊢
  generalize (N + st * (j : Int)) % 26 = q at b0 b1 e ⊢
  rw [List.getD_eq_getElem?_getD, List.getD_eq_getElem?_getD, List.getElem?_eq_getElem (by omega), List.getElem?_eq_getElem (by omega)] at e
  simp only [Option.getD_some] at e
  have := nodup_get nd (by omega) (by omega) e
  omega
theorem sp_row {U : List Nm} {rn : Nat} {c : Int} (hU : U.length = 26) (nd : U.Nodup) (hN : S[rn]? = some (.lst (U.map .str))) (hq : ∀ (S' : Sto) (r : Nat) (ss : List Nm), Gr S S' → S.length ≤ r → S'[r]? = some (.lst (ss.map .str)) → ss.length ≤ 26 → ss.Nodup → Q (.ref r) S') : wpCall TT FT (n + 1) 7 [.ref rn, .int c] S Q EX := by
  rw [call7]
  refine ⟨rfl, ?_⟩
  unfold b__law_row
  simp only [wpCs, wpC, wpT, wpE, wpEs, wpI, asg1, List.getElem?_cons_zero, List.getElem?_cons_succ, List.set_cons_zero, List.set_cons_succ, od_addI, od_addS, od_sub, od_mulI, od_div, od_mod, od_neg, od_not, od_eqI, od_neI, od_ltI, od_le, od_gt, od_ge, od_isN, od_notN, od_inS, od_ninS, od_tup, od_lst, od_dnT, od_lenS, od_lenT, od_lenQ, od_ixT, od_ixQ, od_min, od_int1, od_intB, od_listT, od_tupT, od_cutHQ, List.length_cons, List.length_nil, if_true, true_and, and_true, Bool.not_true, Bool.not_false, Bool.false_eq_true, if_false, ite_true, ite_false, decide_true, decide_false, reduceIte, Option.some.injEq, exists_eq_left', Int.reduceLT, Int.reduceLE, Int.reduceToNat, and_self, true_or, or_true]
  refine ⟨.inr (by decide), ?_⟩
  generalize (c * 50021) % 2147483399 = N
  refine ⟨by decide, ?_⟩
  rw [od_ixL (at_push _ _)]
  obtain ⟨st, hst, hstm⟩ := steps12 (i := N / 26 % 12) (Int.emod_nonneg _ (by decide)) (Int.emod_lt_of_pos _ (by decide))
  refine ⟨_, hst, ?_⟩
  generalize hS1 : S ++ [Ob.lst [.int 1, .int 3, .int 5, .int 7, .int 9, .int 11, .int 15, .int 17, .int 19, .int 21, .int 23, .int 25]] = S1
  have gS1 : Gr S S1 := by rw [← hS1]; exact Gr.push _ _
  have fin : ∀ (sz : Int) (ρ : Mp.Env), 0 ≤ sz → sz < 27 → ρ = [some (.ref rn), some (.int c), some (.int N), ρ[3]?.getD none, some (.int st), some (.int sz), none] → wpE TT (wpCall TT FT n) none (.comp (.op .ix (.cons (.var 0) (.cons (.op .mod (.cons (.op .add (.cons (.var 2) (.cons (.op .mul (.cons (.var 4) (.cons (.var 6) .nil))) .nil))) (.cons (.cst (.int 26)) .nil))) .nil))) 6 (.rng1 (.var 5))) ρ S1 Q EX := by
    intro sz ρ h0 h1 e
    rw [e]
    simp only [wpCs, wpC, wpT, wpE, wpEs, wpI, asg1, List.getElem?_cons_zero, List.getElem?_cons_succ, List.set_cons_zero, List.set_cons_succ, od_addI, od_addS, od_sub, od_mulI, od_div, od_mod, od_neg, od_not, od_eqI, od_neI, od_ltI, od_le, od_gt, od_ge, od_isN, od_notN, od_inS, od_ninS, od_tup, od_lst, od_dnT, od_lenS, od_lenT, od_lenQ, od_ixT, od_ixQ, od_min, od_int1, od_intB, od_listT, od_tupT, od_cutHQ, List.length_cons, List.length_nil, if_true, true_and, and_true, Bool.not_true, Bool.not_false, Bool.false_eq_true, if_false, ite_true, ite_false, decide_true, decide_false, reduceIte, Option.some.injEq, exists_eq_left', Int.reduceLT, Int.reduceLE, Int.reduceToNat, and_self, true_or, or_true]
    refine ⟨by omega, by omega, ?_⟩
    refine compN_fun (fun x => match x with
      | .int k => .str (U.getD ((N + st * k) % 26).toNat [])
      | _ => .non) (Nat.le_refl S1.length) (fun _ _ => trivial) _ [] _ (fun x hx S' kk g k => ?_) (Gr.push _ _) (at_push _ _) (by simp [len_rng]; omega) (fun S3 g3 h3 => ?_)
    · obtain ⟨j, hj, rfl⟩ := rng_int hx
      simp only [wpCs, wpC, wpT, wpE, wpEs, wpI, asg1, List.getElem?_cons_zero, List.getElem?_cons_succ, List.set_cons_zero, List.set_cons_succ, od_addI, od_addS, od_sub, od_mulI, od_div, od_mod, od_neg, od_not, od_eqI, od_neI, od_ltI, od_le, od_gt, od_ge, od_isN, od_notN, od_inS, od_ninS, od_tup, od_lst, od_dnT, od_lenS, od_lenT, od_lenQ, od_ixT, od_ixQ, od_min, od_int1, od_intB, od_listT, od_tupT, od_cutHQ, List.length_cons, List.length_nil, if_true, true_and, and_true, Bool.not_true, Bool.not_false, Bool.false_eq_true, if_false, ite_true, ite_false, decide_true, decide_false, reduceIte, Option.some.injEq, exists_eq_left', Int.reduceLT, Int.reduceLE, Int.reduceToNat, and_self, true_or, or_true, od_ixL (g _ _ (gS1 _ _ hN))]
      refine ⟨.inr (by omega), ?_⟩
      have w0 : 0 ≤ (N + st * j) % 26 := Int.emod_nonneg _ (by decide)
      have w1 : (N + st * j) % 26 < 26 := Int.emod_lt_of_pos _ (by decide)
      refine ⟨_, atI_nn w0 (by simp [hU]; omega), ?_⟩
      rw [List.getElem_map]
      have e : U.getD ((N + st * j) % 26).toNat [] = U[((N + st * j) % 26).toNat]'(by omega) := by
        rw [List.getD_eq_getElem?_getD, List.getElem?_eq_getElem]; rfl
      simp only [e] at k
      exact k
    · have e3 : (rngItems 0 1 sz.toNat).map (fun x : D => match x with
          | .int k => D.str (U.getD ((N + st * k) % 26).toNat [])
          | _ => D.non) = ((List.range sz.toNat).map fun k : Nat => U.getD ((N + st * (k : Int)) % 26).toNat []).map D.str := by
        unfold rngItems
        rw [List.map_map, List.map_map]
        refine List.map_congr_left fun k _ => ?_
        simp only [Function.comp]
        rw [show (0 + (k : Int) * 1) = k by omega]
      rw [List.nil_append, e3] at h3
      exact hq _ _ _ (gS1.trans g3) gS1.len h3 (by simp; omega) (row_nodup hU nd hstm (by omega))
  simp only [wpCs, wpC, wpT, wpE, wpEs, wpI, asg1, List.getElem?_cons_zero, List.getElem?_cons_succ, List.set_cons_zero, List.set_cons_succ] at fin
  try simp only [wpCs, wpC, wpT, wpE, wpEs, wpI, asg1, List.getElem?_cons_zero, List.getElem?_cons_succ, List.set_cons_zero, List.set_cons_succ, od_addI, od_addS, od_sub, od_mulI, od_div, od_mod, od_neg, od_not, od_eqI, od_neI, od_ltI, od_le, od_gt, od_ge, od_isN, od_notN, od_inS, od_ninS, od_tup, od_lst, od_dnT, od_lenS, od_lenT, od_lenQ, od_ixT, od_ixQ, od_min, od_int1, od_intB, od_listT, od_tupT, od_cutHQ, List.length_cons, List.length_nil, if_true, true_and, and_true, Bool.not_true, Bool.not_false, Bool.false_eq_true, if_false, ite_true, ite_false, decide_true, decide_false, reduceIte, Option.some.injEq, exists_eq_left', Int.reduceLT, Int.reduceLE, Int.reduceToNat, and_self, true_or, or_true]
  by_cases k1 : N / 2808 % 6 = 1
  · simp only [k1, wpCs, wpC, wpT, wpE, wpEs, wpI, asg1, List.getElem?_cons_zero, List.getElem?_cons_succ, List.set_cons_zero, List.set_cons_succ, od_addI, od_addS, od_sub, od_mulI, od_div, od_mod, od_neg, od_not, od_eqI, od_neI, od_ltI, od_le, od_gt, od_ge, od_isN, od_notN, od_inS, od_ninS, od_tup, od_lst, od_dnT, od_lenS, od_lenT, od_lenQ, od_ixT, od_ixQ, od_min, od_int1, od_intB, od_listT, od_tupT, od_cutHQ, List.length_cons, List.length_nil, if_true, true_and, and_true, Bool.not_true, Bool.not_false, Bool.false_eq_true, if_false, ite_true, ite_false, decide_true, decide_false, reduceIte, Option.some.injEq, exists_eq_left', Int.reduceLT, Int.reduceLE, Int.reduceToNat, and_self, true_or, or_true]
    have w0 : 0 ≤ N / 16848 % 27 := Int.emod_nonneg _ (by decide)
    have w1 : N / 16848 % 27 < 27 := Int.emod_lt_of_pos _ (by decide)
    have := fin (N / 16848 % 27) [some (.ref rn), some (.int c), some (.int N), some (.ref S.length), some (.int st), some (.int (N / 16848 % 27)), none] w0 (by omega) rfl
    simp only [wpCs, wpC, wpT, wpE, wpEs, wpI, asg1, List.getElem?_cons_zero, List.getElem?_cons_succ, List.set_cons_zero, List.set_cons_succ, od_addI, od_addS, od_sub, od_mulI, od_div, od_mod, od_neg, od_not, od_eqI, od_neI, od_ltI, od_le, od_gt, od_ge, od_isN, od_notN, od_inS, od_ninS, od_tup, od_lst, od_dnT, od_lenS, od_lenT, od_lenQ, od_ixT, od_ixQ, od_min, od_int1, od_intB, od_listT, od_tupT, od_cutHQ, List.length_cons, List.length_nil, if_true, true_and, and_true, Bool.not_true, Bool.not_false, Bool.false_eq_true, if_false, ite_true, ite_false, decide_true, decide_false, reduceIte, Option.some.injEq, exists_eq_left', Int.reduceLT, Int.reduceLE, Int.reduceToNat, and_self, true_or, or_true] at this
    exact this
  · simp only [k1, wpCs, wpC, wpT, wpE, wpEs, wpI, asg1, List.getElem?_cons_zero, List.getElem?_cons_succ, List.set_cons_zero, List.set_cons_succ, od_addI, od_addS, od_sub, od_mulI, od_div, od_mod, od_neg, od_not, od_eqI, od_neI, od_ltI, od_le, od_gt, od_ge, od_isN, od_notN, od_inS, od_ninS, od_tup, od_lst, od_dnT, od_lenS, od_lenT, od_lenQ, od_ixT, od_ixQ, od_min, od_int1, od_intB, od_listT, od_tupT, od_cutHQ, List.length_cons, List.length_nil, if_true, true_and, and_true, Bool.not_true, Bool.not_false, Bool.false_eq_true, if_false, ite_true, ite_false, decide_true, decide_false, reduceIte, Option.some.injEq, exists_eq_left', Int.reduceLT, Int.reduceLE, Int.reduceToNat, and_self, true_or, or_true]
    have w0 : 0 ≤ N / 312 % 9 := Int.emod_nonneg _ (by decide)
    have w1 : N / 312 % 9 < 9 := Int.emod_lt_of_pos _ (by decide)
    have := fin (N / 312 % 9) [some (.ref rn), some (.int c), some (.int N), some (.ref S.length), some (.int st), some (.int (N / 312 % 9)), none] w0 (by omega) rfl
    simp only [wpCs, wpC, wpT, wpE, wpEs, wpI, asg1, List.getElem?_cons_zero, List.getElem?_cons_succ, List.set_cons_zero, List.set_cons_succ, od_addI, od_addS, od_sub, od_mulI, od_div, od_mod, od_neg, od_not, od_eqI, od_neI, od_ltI, od_le, od_gt, od_ge, od_isN, od_notN, od_inS, od_ninS, od_tup, od_lst, od_dnT, od_lenS, od_lenT, od_lenQ, od_ixT, od_ixQ, od_min, od_int1, od_intB, od_listT, od_tupT, od_cutHQ, List.length_cons, List.length_nil, if_true, true_and, and_true, Bool.not_true, Bool.not_false, Bool.false_eq_true, if_false, ite_true, ite_false, decide_true, decide_false, reduceIte, Option.some.injEq, exists_eq_left', Int.reduceLT, Int.reduceLE, Int.reduceToNat, and_self, true_or, or_true] at this
    exact this
theorem sp_shelves {ns : List Int} (hq : ∀ (S' : Sto) (r : Nat) (ks : List K2), Gr S S' → S'[r]? = some (.lst (ks.map kd)) → ks.length = 5 → Q (.ref r) S') : wpCall TT FT (n + 2) 9 [.lis (ns.map .int)] S Q EX := by
  rw [call9]
  refine ⟨rfl, ?_⟩
  unfold b__law_shelves
  simp only [wpCs, wpC, wpT, wpE, wpEs, wpI, asg1, List.getElem?_cons_zero, List.getElem?_cons_succ, List.set_cons_zero, List.set_cons_succ, od_addI, od_addS, od_sub, od_mulI, od_div, od_mod, od_neg, od_not, od_eqI, od_neI, od_ltI, od_le, od_gt, od_ge, od_isN, od_notN, od_inS, od_ninS, od_tup, od_lst, od_dnT, od_lenS, od_lenT, od_lenQ, od_ixT, od_ixQ, od_min, od_int1, od_intB, od_listT, od_tupT, od_cutHQ, List.length_cons, List.length_nil, if_true, true_and, and_true, Bool.not_true, Bool.not_false, Bool.false_eq_true, if_false, ite_true, ite_false, decide_true, decide_false, reduceIte, Option.some.injEq, exists_eq_left', Int.reduceLT, Int.reduceLE, Int.reduceToNat, and_self, true_or, or_true]
  refine sp_cellQ (by decide) fun z1 => ?_
  refine sp_names (m := 2) (by decide) fun S1 ra sa g1 h1 l1 _ => ?_
  try simp only [wpCs, wpC, wpT, wpE, wpEs, wpI, asg1, List.getElem?_cons_zero, List.getElem?_cons_succ, List.set_cons_zero, List.set_cons_succ, od_addI, od_addS, od_sub, od_mulI, od_div, od_mod, od_neg, od_not, od_eqI, od_neI, od_ltI, od_le, od_gt, od_ge, od_isN, od_notN, od_inS, od_ninS, od_tup, od_lst, od_dnT, od_lenS, od_lenT, od_lenQ, od_ixT, od_ixQ, od_min, od_int1, od_intB, od_listT, od_tupT, od_cutHQ, List.length_cons, List.length_nil, if_true, true_and, and_true, Bool.not_true, Bool.not_false, Bool.false_eq_true, if_false, ite_true, ite_false, decide_true, decide_false, reduceIte, Option.some.injEq, exists_eq_left', Int.reduceLT, Int.reduceLE, Int.reduceToNat, and_self, true_or, or_true]
  refine sp_cellQ (by decide) fun z2 => ?_
  refine sp_names (m := 3) (by decide) fun S2 rb sb g2 h2 l2 _ => ?_
  try simp only [wpCs, wpC, wpT, wpE, wpEs, wpI, asg1, List.getElem?_cons_zero, List.getElem?_cons_succ, List.set_cons_zero, List.set_cons_succ, od_addI, od_addS, od_sub, od_mulI, od_div, od_mod, od_neg, od_not, od_eqI, od_neI, od_ltI, od_le, od_gt, od_ge, od_isN, od_notN, od_inS, od_ninS, od_tup, od_lst, od_dnT, od_lenS, od_lenT, od_lenQ, od_ixT, od_ixQ, od_min, od_int1, od_intB, od_listT, od_tupT, od_cutHQ, List.length_cons, List.length_nil, if_true, true_and, and_true, Bool.not_true, Bool.not_false, Bool.false_eq_true, if_false, ite_true, ite_false, decide_true, decide_false, reduceIte, Option.some.injEq, exists_eq_left', Int.reduceLT, Int.reduceLE, Int.reduceToNat, and_self, true_or, or_true]
  refine ⟨by decide, by decide, ?_⟩
  have h1' := g2 _ _ h1
  match sa, l1 with
  | [a0, a1], _ =>
  match sb, l2 with
  | [b0, b1, b2], _ =>
  refine compN_fun (fun x => match x with
    | .int k => kd ([a0, a1].getD (k / 2).toNat [], [b0, b1, b2].getD (k % 2).toNat [])
    | _ => .non) (Nat.le_refl S2.length) (fun _ _ => trivial) _ [] _ (fun x hx S' kk g k => ?_) (Gr.push _ _) (at_push _ _) (by simp [len_rng]) (fun S3 g3 h3 => ?_)
  · obtain ⟨j, hj, rfl⟩ := rng_int hx
    have hj' : j < 4 := hj
    simp only [wpCs, wpC, wpT, wpE, wpEs, wpI, asg1, List.getElem?_cons_zero, List.getElem?_cons_succ, List.set_cons_zero, List.set_cons_succ, od_addI, od_addS, od_sub, od_mulI, od_div, od_mod, od_neg, od_not, od_eqI, od_neI, od_ltI, od_le, od_gt, od_ge, od_isN, od_notN, od_inS, od_ninS, od_tup, od_lst, od_dnT, od_lenS, od_lenT, od_lenQ, od_ixT, od_ixQ, od_min, od_int1, od_intB, od_listT, od_tupT, od_cutHQ, List.length_cons, List.length_nil, if_true, true_and, and_true, Bool.not_true, Bool.not_false, Bool.false_eq_true, if_false, ite_true, ite_false, decide_true, decide_false, reduceIte, Option.some.injEq, exists_eq_left', Int.reduceLT, Int.reduceLE, Int.reduceToNat, and_self, true_or, or_true, od_ixL (g _ _ h1'), od_ixL (g _ _ h2)]
    have : j = 0 ∨ j = 1 ∨ j = 2 ∨ j = 3 := by omega
    rcases this with rfl | rfl | rfl | rfl
    · exact ⟨_, rfl, _, rfl, by decide, k⟩
    · exact ⟨_, rfl, _, rfl, by decide, k⟩
    · exact ⟨_, rfl, _, rfl, by decide, k⟩
    · exact ⟨_, rfl, _, rfl, by decide, k⟩
  · have h3' : S3[S2.length]? = some (.lst ([(a0, b0), (a0, b1), (a1, b0), (a1, b1)].map kd)) := h3
    try simp only [wpCs, wpC, wpT, wpE, wpEs, wpI, asg1, List.getElem?_cons_zero, List.getElem?_cons_succ, List.set_cons_zero, List.set_cons_succ, od_addI, od_addS, od_sub, od_mulI, od_div, od_mod, od_neg, od_not, od_eqI, od_neI, od_ltI, od_le, od_gt, od_ge, od_isN, od_notN, od_inS, od_ninS, od_tup, od_lst, od_dnT, od_lenS, od_lenT, od_lenQ, od_ixT, od_ixQ, od_min, od_int1, od_intB, od_listT, od_tupT, od_cutHQ, List.length_cons, List.length_nil, if_true, true_and, and_true, Bool.not_true, Bool.not_false, Bool.false_eq_true, if_false, ite_true, ite_false, decide_true, decide_false, reduceIte, Option.some.injEq, exists_eq_left', Int.reduceLT, Int.reduceLE, Int.reduceToNat, and_self, true_or, or_true]
    simp only [od_ixL (g3 _ _ h1'), od_ixL (g3 _ _ h2)]
    refine ⟨_, rfl, _, rfl, ?_⟩
    try simp only [wpCs, wpC, wpT, wpE, wpEs, wpI, asg1, List.getElem?_cons_zero, List.getElem?_cons_succ, List.set_cons_zero, List.set_cons_succ, od_addI, od_addS, od_sub, od_mulI, od_div, od_mod, od_neg, od_not, od_eqI, od_neI, od_ltI, od_le, od_gt, od_ge, od_isN, od_notN, od_inS, od_ninS, od_tup, od_lst, od_dnT, od_lenS, od_lenT, od_lenQ, od_ixT, od_ixQ, od_min, od_int1, od_intB, od_listT, od_tupT, od_cutHQ, List.length_cons, List.length_nil, if_true, true_and, and_true, Bool.not_true, Bool.not_false, Bool.false_eq_true, if_false, ite_true, ite_false, decide_true, decide_false, reduceIte, Option.some.injEq, exists_eq_left', Int.reduceLT, Int.reduceLE, Int.reduceToNat, and_self, true_or, or_true]
    refine ⟨by decide, by decide, ?_⟩
    rw [od_addL (Gr.push _ _ _ _ h3') (at_push _ _)]
    refine ⟨by simp; show _ ≤ 16777216; omega, ?_⟩
    exact hq _ _ [(a0, b0), (a0, b1), (a1, b0), (a1, b1), (a0, b2)] (((g1.trans g2).trans g3).trans ((Gr.push _ _).trans (Gr.push _ _))) (at_push _ _) rfl
/-! ### put_to -/
theorem Rows.put {rd r : Nat} {m : List Rw} {l : List Nm} (k : K2) (h : Rows S rd m) (hr : S[r]? = some (.lst (l.map .str))) : Rows (S.set rd (.dic true false (kvs (putR m k r l)))) rd (putR m k r l) := by
  have hrr : rd ≠ r := fun z => by rw [← z, h.at_] at hr; cases hr
  refine ⟨at_set h.at_, fun e he => ?_, nd_putR h.nd⟩
  rcases mem_putR he with he | ⟨a, b⟩
  · have h1 := h.each e he
    have : rd ≠ e.2.1 := fun z => by rw [← z, h.at_] at h1; cases h1
    rw [List.getElem?_set_ne this]; exact h1
  · rw [a, b, List.getElem?_set_ne hrr]; exact hr
theorem get_row {rd q0 : Nat} {m : List Rw} {k : K2} (h : Rows S rd m) (h0 : S[q0]? = some (.lst [])) : ∃ q, (look (kvs m) (kd k)).getD (.ref q0) = .ref q ∧ S[q]? = some (.lst (((cont m k).getD []).map .str)) := by
  cases e : cont m k with
  | none => exact ⟨q0, by rw [look_none (cont_none.mp e)]; rfl, h0⟩
  | some l =>
    obtain ⟨f, hf, ek, el⟩ := cont_some e
    refine ⟨f.2.1, by rw [← ek, look_mem h.nd hf]; rfl, ?_⟩
    rw [Option.getD_some, ← el]; exact h.each f hf
def isO (nm : Nm) : D → Bool
  | .str s => !decide (s = nm)
  | _ => true
theorem eqD_str {a b : Nm} : eqD S (.str a) (.str b) = some (decide (a = b)) := by
  have : eqD S (.str a) (.str b) = some (PyData.eqv (sD a) (sD b)) := rfl
  rw [this, eqv_str]
theorem od_neS {a b : Nm} : opD TT .ne [.str a, .str b] S Q = Q (.bl (!decide (a = b))) S := by rw [od_ne, eqD_str]; simp
def oth (row : List Nm) (nm : Nm) : List Nm := row.filter fun s => !decide (s = nm)
def ins (row : List Nm) (nm : Nm) (p : Int) : List Nm := (oth row nm).take (if ((oth row nm).length : Int) < p then ((oth row nm).length : Int) else p).toNat ++ nm :: (oth row nm).drop (if ((oth row nm).length : Int) < p then ((oth row nm).length : Int) else p).toNat
theorem oth_map (row : List Nm) (nm : Nm) : (row.map D.str).filter (isO nm) = (oth row nm).map .str := by
  unfold oth
  rw [List.filter_map]; rfl
theorem sp_put_to {rd : Nat} {m : List Rw} {a b : Nat} {k : K2} {nm : Nm} {p : Int} (h : Rows S rd m) (bd : Bd m a b) (ha : a ≤ 1000) (hb : b ≤ 1000) (hp : 0 ≤ p) (hl : ((cont m k).getD []).length ≤ 1000)
    (hno : nm ∉ (cont m k).getD [] → ∀ S', Gr S S' → EX 4 S')
    (hq : nm ∈ (cont m k).getD [] → ∀ S' r m', Gr S S' → Rows S' r m' → Fr S.length r m' → (∀ k', cont m' k' = if k' = k then some (ins ((cont m k).getD []) nm p) else cont m k') → Q (.ref r) S') : wpCall TT FT (n + 2) 1 [.ref rd, kd k, .str nm, .int p] S Q EX := by
  rw [call1]
  refine ⟨rfl, ?_⟩
  unfold b_put_to
  have g1 : Gr S (S ++ [Ob.lst []]) := Gr.push _ _
  have h1 := h.gr g1
  obtain ⟨q, eq, hrow⟩ := get_row (k := k) h1 (at_push S (Ob.lst []))
  simp only [wpCs, wpC, wpT, wpE, wpEs, wpI, asg1, List.getElem?_cons_zero, List.getElem?_cons_succ, List.set_cons_zero, List.set_cons_succ, od_addI, od_addS, od_sub, od_mulI, od_div, od_mod, od_neg, od_not, od_eqI, od_neI, od_ltI, od_le, od_gt, od_ge, od_isN, od_notN, od_inS, od_ninS, od_tup, od_lst, od_dnT, od_lenS, od_lenT, od_lenQ, od_ixT, od_ixQ, od_min, od_int1, od_intB, od_listT, od_tupT, od_cutHQ, List.length_cons, List.length_nil, if_true, true_and, and_true, Bool.not_true, Bool.not_false, Bool.false_eq_true, if_false, ite_true, ite_false, decide_true, decide_false, reduceIte, Option.some.injEq, exists_eq_left', Int.reduceLT, Int.reduceLE, Int.reduceToNat, and_self, true_or, or_true, tk_get h.at_]
  refine ⟨by decide, ?_⟩
  rw [od_get2 h1.at_ (keyOk_kd k), eq]
  generalize S ++ [Ob.lst []] = S1 at *
  generalize (cont m k).getD [] = row at *
  have i1 : ∀ Q, opD TT .nin [.str nm, .ref q] S1 Q = Q (.bl (!decide (nm ∈ row))) S1 := fun Q => od_ninL hrow (in_str _ _)
  simp only [wpCs, wpC, wpT, wpE, wpEs, wpI, asg1, List.getElem?_cons_zero, List.getElem?_cons_succ, List.set_cons_zero, List.set_cons_succ, od_addI, od_addS, od_sub, od_mulI, od_div, od_mod, od_neg, od_not, od_eqI, od_neI, od_ltI, od_le, od_gt, od_ge, od_isN, od_notN, od_inS, od_ninS, od_tup, od_lst, od_dnT, od_lenS, od_lenT, od_lenQ, od_ixT, od_ixQ, od_min, od_int1, od_intB, od_listT, od_tupT, od_cutHQ, List.length_cons, List.length_nil, if_true, true_and, and_true, Bool.not_true, Bool.not_false, Bool.false_eq_true, if_false, ite_true, ite_false, decide_true, decide_false, reduceIte, Option.some.injEq, exists_eq_left', Int.reduceLT, Int.reduceLE, Int.reduceToNat, and_self, true_or, or_true, i1]
  by_cases hin : nm ∈ row
  · simp only [hin, wpCs, wpC, wpT, wpE, wpEs, wpI, asg1, List.getElem?_cons_zero, List.getElem?_cons_succ, List.set_cons_zero, List.set_cons_succ, od_addI, od_addS, od_sub, od_mulI, od_div, od_mod, od_neg, od_not, od_eqI, od_neI, od_ltI, od_le, od_gt, od_ge, od_isN, od_notN, od_inS, od_ninS, od_tup, od_lst, od_dnT, od_lenS, od_lenT, od_lenQ, od_ixT, od_ixQ, od_min, od_int1, od_intB, od_listT, od_tupT, od_cutHQ, List.length_cons, List.length_nil, if_true, true_and, and_true, Bool.not_true, Bool.not_false, Bool.false_eq_true, if_false, ite_true, ite_false, decide_true, decide_false, reduceIte, Option.some.injEq, exists_eq_left', Int.reduceLT, Int.reduceLE, Int.reduceToNat, and_self, true_or, or_true, wk_lst hrow]
    refine compN_filter (isO nm) (Nat.le_refl S1.length) (fun S' g => sq_lst (g _ _ hrow)) _ [] _ (fun x hx S' kk g k => ?_) (Gr.push _ _) (at_push _ _) (by simp; omega) (fun S2 g2 h2 => ?_)
    · obtain ⟨s, hs, rfl⟩ := List.mem_map.mp hx
      simp only [wpCs, wpC, wpT, wpE, wpEs, wpI, asg1, List.getElem?_cons_zero, List.getElem?_cons_succ, List.set_cons_zero, List.set_cons_succ, od_addI, od_addS, od_sub, od_mulI, od_div, od_mod, od_neg, od_not, od_eqI, od_neI, od_ltI, od_le, od_gt, od_ge, od_isN, od_notN, od_inS, od_ninS, od_tup, od_lst, od_dnT, od_lenS, od_lenT, od_lenQ, od_ixT, od_ixQ, od_min, od_int1, od_intB, od_listT, od_tupT, od_cutHQ, List.length_cons, List.length_nil, if_true, true_and, and_true, Bool.not_true, Bool.not_false, Bool.false_eq_true, if_false, ite_true, ite_false, decide_true, decide_false, reduceIte, Option.some.injEq, exists_eq_left', Int.reduceLT, Int.reduceLE, Int.reduceToNat, and_self, true_or, or_true, od_neS]
      simp only [isO] at k
      by_cases e : s = nm
      · simp only [e, wpCs, wpC, wpT, wpE, wpEs, wpI, asg1, List.getElem?_cons_zero, List.getElem?_cons_succ, List.set_cons_zero, List.set_cons_succ, od_addI, od_addS, od_sub, od_mulI, od_div, od_mod, od_neg, od_not, od_eqI, od_neI, od_ltI, od_le, od_gt, od_ge, od_isN, od_notN, od_inS, od_ninS, od_tup, od_lst, od_dnT, od_lenS, od_lenT, od_lenQ, od_ixT, od_ixQ, od_min, od_int1, od_intB, od_listT, od_tupT, od_cutHQ, List.length_cons, List.length_nil, if_true, true_and, and_true, Bool.not_true, Bool.not_false, Bool.false_eq_true, if_false, ite_true, ite_false, decide_true, decide_false, reduceIte, Option.some.injEq, exists_eq_left', Int.reduceLT, Int.reduceLE, Int.reduceToNat, and_self, true_or, or_true, Bool.not_eq_true'] at k ⊢
        exact k
      · simp only [e, wpCs, wpC, wpT, wpE, wpEs, wpI, asg1, List.getElem?_cons_zero, List.getElem?_cons_succ, List.set_cons_zero, List.set_cons_succ, od_addI, od_addS, od_sub, od_mulI, od_div, od_mod, od_neg, od_not, od_eqI, od_neI, od_ltI, od_le, od_gt, od_ge, od_isN, od_notN, od_inS, od_ninS, od_tup, od_lst, od_dnT, od_lenS, od_lenT, od_lenQ, od_ixT, od_ixQ, od_min, od_int1, od_intB, od_listT, od_tupT, od_cutHQ, List.length_cons, List.length_nil, if_true, true_and, and_true, Bool.not_true, Bool.not_false, Bool.false_eq_true, if_false, ite_true, ite_false, decide_true, decide_false, reduceIte, Option.some.injEq, exists_eq_left', Int.reduceLT, Int.reduceLE, Int.reduceToNat, and_self, true_or, or_true, Bool.not_eq_true'] at k ⊢
        exact k
    · rw [List.nil_append, oth_map] at h2
      simp only [wpCs, wpC, wpT, wpE, wpEs, wpI, asg1, List.getElem?_cons_zero, List.getElem?_cons_succ, List.set_cons_zero, List.set_cons_succ, od_addI, od_addS, od_sub, od_mulI, od_div, od_mod, od_neg, od_not, od_eqI, od_neI, od_ltI, od_le, od_gt, od_ge, od_isN, od_notN, od_inS, od_ninS, od_tup, od_lst, od_dnT, od_lenS, od_lenT, od_lenQ, od_ixT, od_ixQ, od_min, od_int1, od_intB, od_listT, od_tupT, od_cutHQ, List.length_cons, List.length_nil, if_true, true_and, and_true, Bool.not_true, Bool.not_false, Bool.false_eq_true, if_false, ite_true, ite_false, decide_true, decide_false, reduceIte, Option.some.injEq, exists_eq_left', Int.reduceLT, Int.reduceLE, Int.reduceToNat, and_self, true_or, or_true, od_lenL h2, List.length_map]
      refine sp_copied (h1.gr g2) bd ha hb fun S3 r m' g3 h3 hc fr bd' => ?_
      try simp only [wpCs, wpC, wpT, wpE, wpEs, wpI, asg1, List.getElem?_cons_zero, List.getElem?_cons_succ, List.set_cons_zero, List.set_cons_succ, od_addI, od_addS, od_sub, od_mulI, od_div, od_mod, od_neg, od_not, od_eqI, od_neI, od_ltI, od_le, od_gt, od_ge, od_isN, od_notN, od_inS, od_ninS, od_tup, od_lst, od_dnT, od_lenS, od_lenT, od_lenQ, od_ixT, od_ixQ, od_min, od_int1, od_intB, od_listT, od_tupT, od_cutHQ, List.length_cons, List.length_nil, if_true, true_and, and_true, Bool.not_true, Bool.not_false, Bool.false_eq_true, if_false, ite_true, ite_false, decide_true, decide_false, reduceIte, Option.some.injEq, exists_eq_left', Int.reduceLT, Int.reduceLE, Int.reduceToNat, and_self, true_or, or_true]
      have h32 := g3 _ _ h2
      have hi0 : 0 ≤ (if ((oth row nm).length : Int) < p then ((oth row nm).length : Int) else p) := by split <;> omega
      have hins : ins row nm p = (oth row nm).take (if ((oth row nm).length : Int) < p then ((oth row nm).length : Int) else p).toNat ++ nm :: (oth row nm).drop (if ((oth row nm).length : Int) < p then ((oth row nm).length : Int) else p).toNat := rfl
      have hol : (oth row nm).length ≤ 1000 := Nat.le_trans (List.length_filter_le _ _) hl
      generalize (if ((oth row nm).length : Int) < p then ((oth row nm).length : Int) else p) = ip at hi0 hins ⊢
      rw [od_cutHL h32]
      refine ⟨hi0, ?_⟩
      try simp only [wpCs, wpC, wpT, wpE, wpEs, wpI, asg1, List.getElem?_cons_zero, List.getElem?_cons_succ, List.set_cons_zero, List.set_cons_succ, od_addI, od_addS, od_sub, od_mulI, od_div, od_mod, od_neg, od_not, od_eqI, od_neI, od_ltI, od_le, od_gt, od_ge, od_isN, od_notN, od_inS, od_ninS, od_tup, od_lst, od_dnT, od_lenS, od_lenT, od_lenQ, od_ixT, od_ixQ, od_min, od_int1, od_intB, od_listT, od_tupT, od_cutHQ, List.length_cons, List.length_nil, if_true, true_and, and_true, Bool.not_true, Bool.not_false, Bool.false_eq_true, if_false, ite_true, ite_false, decide_true, decide_false, reduceIte, Option.some.injEq, exists_eq_left', Int.reduceLT, Int.reduceLE, Int.reduceToNat, and_self, true_or, or_true]
      refine ⟨by decide, ?_⟩
      have e4 : (S3 ++ [Ob.lst (((oth row nm).map D.str).take ip.toNat)])[S3.length]? = some (Ob.lst (((oth row nm).map D.str).take ip.toNat)) := at_push _ _
      rw [od_addL (Gr.push _ _ _ _ e4) (at_push _ _)]
      have gg4 := (Gr.push S3 [Ob.lst (((oth row nm).map D.str).take ip.toNat)])
      generalize S3 ++ [Ob.lst (((oth row nm).map D.str).take ip.toNat)] = S4 at *
      refine ⟨by simp; show _ ≤ 16777216; omega, ?_⟩
      have gg5 : Gr S3 (S4 ++ [Ob.lst [D.str nm]]) := gg4.trans (Gr.push _ _)
      generalize S4 ++ [Ob.lst [D.str nm]] = S5 at *
      have e6 := at_push S5 (Ob.lst (((oth row nm).map D.str).take ip.toNat ++ [D.str nm]))
      have gg6 : Gr S3 (S5 ++ [Ob.lst (((oth row nm).map D.str).take ip.toNat ++ [D.str nm])]) := gg5.trans (Gr.push _ _)
      try simp only [wpCs, wpC, wpT, wpE, wpEs, wpI, asg1, List.getElem?_cons_zero, List.getElem?_cons_succ, List.set_cons_zero, List.set_cons_succ, od_addI, od_addS, od_sub, od_mulI, od_div, od_mod, od_neg, od_not, od_eqI, od_neI, od_ltI, od_le, od_gt, od_ge, od_isN, od_notN, od_inS, od_ninS, od_tup, od_lst, od_dnT, od_lenS, od_lenT, od_lenQ, od_ixT, od_ixQ, od_min, od_int1, od_intB, od_listT, od_tupT, od_cutHQ, List.length_cons, List.length_nil, if_true, true_and, and_true, Bool.not_true, Bool.not_false, Bool.false_eq_true, if_false, ite_true, ite_false, decide_true, decide_false, reduceIte, Option.some.injEq, exists_eq_left', Int.reduceLT, Int.reduceLE, Int.reduceToNat, and_self, true_or, or_true]
      rw [od_cutLL (gg6 _ _ h32)]
      refine ⟨hi0, ?_⟩
      generalize S5 ++ [Ob.lst (((oth row nm).map D.str).take ip.toNat ++ [D.str nm])] = S6 at *
      try simp only [wpCs, wpC, wpT, wpE, wpEs, wpI, asg1, List.getElem?_cons_zero, List.getElem?_cons_succ, List.set_cons_zero, List.set_cons_succ, od_addI, od_addS, od_sub, od_mulI, od_div, od_mod, od_neg, od_not, od_eqI, od_neI, od_ltI, od_le, od_gt, od_ge, od_isN, od_notN, od_inS, od_ninS, od_tup, od_lst, od_dnT, od_lenS, od_lenT, od_lenQ, od_ixT, od_ixQ, od_min, od_int1, od_intB, od_listT, od_tupT, od_cutHQ, List.length_cons, List.length_nil, if_true, true_and, and_true, Bool.not_true, Bool.not_false, Bool.false_eq_true, if_false, ite_true, ite_false, decide_true, decide_false, reduceIte, Option.some.injEq, exists_eq_left', Int.reduceLT, Int.reduceLE, Int.reduceToNat, and_self, true_or, or_true]
      rw [od_addL (Gr.push _ _ _ _ e6) (at_push _ _)]
      refine ⟨by simp; show _ ≤ 16777216; omega, ?_⟩
      have gg7 : Gr S3 (S6 ++ [Ob.lst (((oth row nm).map D.str).drop ip.toNat)]) := gg6.trans (Gr.push _ _)
      generalize S6 ++ [Ob.lst (((oth row nm).map D.str).drop ip.toNat)] = S7 at *
      have hx : (((oth row nm).map D.str).take ip.toNat ++ [D.str nm] ++ ((oth row nm).map D.str).drop ip.toNat) = (ins row nm p).map .str := by
        rw [hins]; simp
      rw [hx]
      have gg8 : Gr S3 (S7 ++ [Ob.lst ((ins row nm p).map .str)]) := gg7.trans (Gr.push _ _)
      have l7 := gg7.len
      have h8 := h3.gr gg8
      try simp only [wpCs, wpC, wpT, wpE, wpEs, wpI, asg1, List.getElem?_cons_zero, List.getElem?_cons_succ, List.set_cons_zero, List.set_cons_succ, od_addI, od_addS, od_sub, od_mulI, od_div, od_mod, od_neg, od_not, od_eqI, od_neI, od_ltI, od_le, od_gt, od_ge, od_isN, od_notN, od_inS, od_ninS, od_tup, od_lst, od_dnT, od_lenS, od_lenT, od_lenQ, od_ixT, od_ixQ, od_min, od_int1, od_intB, od_listT, od_tupT, od_cutHQ, List.length_cons, List.length_nil, if_true, true_and, and_true, Bool.not_true, Bool.not_false, Bool.false_eq_true, if_false, ite_true, ite_false, decide_true, decide_false, reduceIte, Option.some.injEq, exists_eq_left', Int.reduceLT, Int.reduceLE, Int.reduceToNat, and_self, true_or, or_true]
      rw [setW_dic h8.at_, put_kvsR m' k S7.length (ins row nm p)]
      refine ⟨keyOk_kd _, ?_, ?_⟩
      · show (kvs m').length < 16777216
        have := bd'.len
        simp only [kvs, List.length_map]; omega
      have b12 : S.length ≤ S2.length := Nat.le_trans g1.len g2.len
      refine hq hin _ _ (putR m' k S7.length (ins row nm p)) (((g1.trans g2).trans (g3.trans gg8)).set (Nat.le_trans b12 fr.d)) (Rows.put k h8 (at_push _ _)) ⟨Nat.le_trans b12 fr.d, fun e he => ?_, refs_putR h3.nd fr.nd fun e he => ?_⟩ fun k' => ?_
      · rcases mem_putR he with he | ⟨x, y⟩
        · exact Nat.le_trans b12 (fr.l e he)
        · rw [x]
          have := g3.len
          omega
      · have := at_lt (h3.each e he)
        omega
      · rw [cont_putR]
        split
        · rfl
        · exact same_cnt hc k'
  · simp only [hin, wpCs, wpC, wpT, wpE, wpEs, wpI, asg1, List.getElem?_cons_zero, List.getElem?_cons_succ, List.set_cons_zero, List.set_cons_succ, od_addI, od_addS, od_sub, od_mulI, od_div, od_mod, od_neg, od_not, od_eqI, od_neI, od_ltI, od_le, od_gt, od_ge, od_isN, od_notN, od_inS, od_ninS, od_tup, od_lst, od_dnT, od_lenS, od_lenT, od_lenQ, od_ixT, od_ixQ, od_min, od_int1, od_intB, od_listT, od_tupT, od_cutHQ, List.length_cons, List.length_nil, if_true, true_and, and_true, Bool.not_true, Bool.not_false, Bool.false_eq_true, if_false, ite_true, ite_false, decide_true, decide_false, reduceIte, Option.some.injEq, exists_eq_left', Int.reduceLT, Int.reduceLE, Int.reduceToNat, and_self, true_or, or_true]
    exact hno hin _ g1
theorem sp_tried {rd : Nat} {m : List Rw} {a b : Nat} {k : K2} {nm : Nm} {p : Int} (h : Rows S rd m) (bd : Bd m a b) (ha : a ≤ 1000) (hb : b ≤ 1000) (hp : 0 ≤ p) (hl : ((cont m k).getD []).length ≤ 1000)
    (hno : nm ∉ (cont m k).getD [] → ∀ S' r, Gr S S' → S'[r]? = some (.lst [.bl true, .bl true, .bl false]) → Q (.tup [.non, .ref r]) S')
    (hq : nm ∈ (cont m k).getD [] → ∀ S' r rk m', Gr S S' → Rows S' r m' → Fr S.length r m' → S'[rk]? = some (.lst []) → (∀ k', cont m' k' = if k' = k then some (ins ((cont m k).getD []) nm p) else cont m k') → Q (.tup [.ref r, .ref rk]) S') : wpCall TT FT (n + 3) 8 [.ref rd, kd k, .str nm, .int p] S Q EX := by
  rw [call8]
  refine ⟨rfl, ?_⟩
  unfold b__law_tried
  simp only [wpCs, wpC, wpT, wpE, wpEs, wpI, asg1, List.getElem?_cons_zero, List.getElem?_cons_succ, List.set_cons_zero, List.set_cons_succ, od_addI, od_addS, od_sub, od_mulI, od_div, od_mod, od_neg, od_not, od_eqI, od_neI, od_ltI, od_le, od_gt, od_ge, od_isN, od_notN, od_inS, od_ninS, od_tup, od_lst, od_dnT, od_lenS, od_lenT, od_lenQ, od_ixT, od_ixQ, od_min, od_int1, od_intB, od_listT, od_tupT, od_cutHQ, List.length_cons, List.length_nil, if_true, true_and, and_true, Bool.not_true, Bool.not_false, Bool.false_eq_true, if_false, ite_true, ite_false, decide_true, decide_false, reduceIte, Option.some.injEq, exists_eq_left', Int.reduceLT, Int.reduceLE, Int.reduceToNat, and_self, true_or, or_true]
  refine ⟨by decide, ?_⟩
  refine sp_put_to (h.gr (Gr.push _ _)) bd ha hb hp hl (fun hin S' g => ?_) fun hin S' r m' g hr fr hc => ?_
  · rw [if_pos (by decide)]
    simp only [wpCs, wpC, wpT, wpE, wpEs, wpI, asg1, List.getElem?_cons_zero, List.getElem?_cons_succ, List.set_cons_zero, List.set_cons_succ, od_addI, od_addS, od_sub, od_mulI, od_div, od_mod, od_neg, od_not, od_eqI, od_neI, od_ltI, od_le, od_gt, od_ge, od_isN, od_notN, od_inS, od_ninS, od_tup, od_lst, od_dnT, od_lenS, od_lenT, od_lenQ, od_ixT, od_ixQ, od_min, od_int1, od_intB, od_listT, od_tupT, od_cutHQ, List.length_cons, List.length_nil, if_true, true_and, and_true, Bool.not_true, Bool.not_false, Bool.false_eq_true, if_false, ite_true, ite_false, decide_true, decide_false, reduceIte, Option.some.injEq, exists_eq_left', Int.reduceLT, Int.reduceLE, Int.reduceToNat, and_self, true_or, or_true, hdK, clsE, excIs]
    refine ⟨by decide, by decide, ?_⟩
    exact hno hin _ _ (((Gr.push _ _).trans g).trans (Gr.push _ _)) (at_push _ _)
  · try simp only [wpCs, wpC, wpT, wpE, wpEs, wpI, asg1, List.getElem?_cons_zero, List.getElem?_cons_succ, List.set_cons_zero, List.set_cons_succ, od_addI, od_addS, od_sub, od_mulI, od_div, od_mod, od_neg, od_not, od_eqI, od_neI, od_ltI, od_le, od_gt, od_ge, od_isN, od_notN, od_inS, od_ninS, od_tup, od_lst, od_dnT, od_lenS, od_lenT, od_lenQ, od_ixT, od_ixQ, od_min, od_int1, od_intB, od_listT, od_tupT, od_cutHQ, List.length_cons, List.length_nil, if_true, true_and, and_true, Bool.not_true, Bool.not_false, Bool.false_eq_true, if_false, ite_true, ite_false, decide_true, decide_false, reduceIte, Option.some.injEq, exists_eq_left', Int.reduceLT, Int.reduceLE, Int.reduceToNat, and_self, true_or, or_true]
    refine ⟨by decide, ?_⟩
    refine hq hin _ _ _ _ ((Gr.push _ _).trans g) hr (fr.low (Gr.push _ _).len) (g _ _ (at_push _ _)) hc
theorem alike_map {S : Sto} {n : Nat} (ih : ∀ d p, pd S n d = some p → PySem.W.alike p p = true) : ∀ (ds : List D) (ps : List PyData), ds.mapM (pd S n) = some ps → PySem.W.alikeAll ps ps = true
  | [], ps, h => by cases h; rfl
  | d :: ds, ps, h => by
    rw [List.mapM_cons] at h
    cases e1 : pd S n d with
    | none => rw [e1] at h; cases h
    | some p =>
      cases e2 : ds.mapM (pd S n) with
      | none => rw [e1, e2] at h; cases h
      | some qs =>
        rw [e1, e2] at h; cases h
        simp [PySem.W.alikeAll, ih d p e1, alike_map ih ds qs e2]
theorem alike_pd {S : Sto} : ∀ (n : Nat) (d : D) (p : PyData), pd S n d = some p → PySem.W.alike p p = true
  | 0, d, p, h => by cases d <;> cases h
  | n + 1, d, p, h => by
    cases d with
    | non => cases h; rfl
    | bl b => cases h; rfl
    | int i => cases h; rfl
    | str s => cases h; rfl
    | tup ds =>
      obtain ⟨ps, e1, rfl⟩ := Option.map_eq_some_iff.mp (show (ds.mapM (pd S n)).map _ = some p from h)
      rw [PySem.W.alike]; exact alike_map (alike_pd n) _ _ e1
    | lis ds =>
      obtain ⟨ps, e1, rfl⟩ := Option.map_eq_some_iff.mp (show (ds.mapM (pd S n)).map _ = some p from h)
      rw [PySem.W.alike]; exact alike_map (alike_pd n) _ _ e1
    | ref r =>
      obtain ⟨ps, e1, rfl⟩ := Option.map_eq_some_iff.mp (show ((lstAt S r).bind fun ds => ds.mapM (pd S n)).map _ = some p from h)
      obtain ⟨ds, e2, e3⟩ := Option.bind_eq_some_iff.mp e1
      rw [PySem.W.alike]; exact alike_map (alike_pd n) _ _ e3
theorem eqD_same {S : Sto} {a b : D} {p : PyData} (h1 : pd S 12 a = some p) (h2 : pd S 12 b = some p) : eqD S a b = some true := by
  unfold eqD
  simp only [h1, h2]
  rw [PySem.W.eqv_refl_alike p (alike_pd 12 a p h1)]
theorem eq_bls {r q : Nat} {b1 b2 b3 : Bool} (h1 : S[r]? = some (.lst [.bl b1, .bl b2, .bl b3])) (h2 : S[q]? = some (.lst [.bl b1, .bl b2, .bl b3])) : eqD S (.ref r) (.ref q) = some true :=
  eqD_same (p := .list [.bool b1, .bool b2, .bool b3]) (by simp [pd, lstAt, h1, seqOf]) (by simp [pd, lstAt, h2, seqOf])
/-! ### the law -/
def lA2 (T : Cms) : Cms := (.cons (.asg 13 (.op .mod (.cons (.call 2 (.cons (.var 7) (.cons (.op .add (.cons (.var 8) (.cons (.cst (.int 2)) .nil))) .nil))) (.cons (.op .ix (.cons (.op .lst (.cons (.cst (.int 5)) (.cons (.cst (.int 30)) (.cons (.op .pow (.cons (.cst (.int 10)) (.cons (.cst (.int 60)) .nil))) .nil)))) (.cons (.op .mod (.cons (.op .fdiv (.cons (.var 9) (.cons (.cst (.int 15)) .nil))) (.cons (.cst (.int 3)) .nil))) .nil))) .nil)))) T)
def lA (T : Cms) : Cms := (.cons (.asg 9 (.op .mod (.cons (.op .mul (.cons (.op .ix (.cons (.var 7) (.cons (.var 8) .nil))) (.cons (.cst (.int 48271)) .nil))) (.cons (.cst (.int 2147483647)) .nil)))) (.cons (.asg 10 (.op .ix (.cons (.var 1) (.cons (.op .mod (.cons (.var 9) (.cons (.cst (.int 5)) .nil))) .nil)))) (.cons (.asg 5 (.bm .get2 (.var 3) (.cons (.var 10) (.cons (.op .lst .nil) .nil)))) (.cons (.asg 11 (.call 2 (.cons (.var 7) (.cons (.op .add (.cons (.var 8) (.cons (.cst (.int 1)) .nil))) .nil)))) (.cons (.asg 12 (.op .ix (.cons (.var 2) (.cons (.op .mod (.cons (.var 11) (.cons (.cst (.int 26)) .nil))) .nil)))) (.cons (.ite (.and (.op .ne (.cons (.var 5) (.cons (.op .lst .nil) .nil))) (.op .gt (.cons (.op .mod (.cons (.op .fdiv (.cons (.var 9) (.cons (.cst (.int 5)) .nil))) (.cons (.cst (.int 3)) .nil))) (.cons (.cst (.int 0)) .nil)))) (.cons (.asg 12 (.op .ix (.cons (.var 5) (.cons (.op .mod (.cons (.var 11) (.cons (.op .len (.cons (.var 5) .nil)) .nil))) .nil)))) .nil) .nil) (.cons (.asg 13 (.op .mod (.cons (.call 2 (.cons (.var 7) (.cons (.op .add (.cons (.var 8) (.cons (.cst (.int 2)) .nil))) .nil))) (.cons (.op .ix (.cons (.op .lst (.cons (.cst (.int 5)) (.cons (.cst (.int 30)) (.cons (.op .pow (.cons (.cst (.int 10)) (.cons (.cst (.int 60)) .nil))) .nil)))) (.cons (.op .mod (.cons (.op .fdiv (.cons (.var 9) (.cons (.cst (.int 15)) .nil))) (.cons (.cst (.int 3)) .nil))) .nil))) .nil)))) T)))))))
def lB (T : Cms) : Cms := (.cons (.asg 14 (.call 4 (.cons (.var 3) .nil))) (.cons (.asgT [15, 16] (.call 8 (.cons (.var 14) (.cons (.var 10) (.cons (.var 12) (.cons (.var 13) .nil)))))) (.cons (.ite (.op .bnot (.cons (.call 5 (.cons (.var 14) (.cons (.var 3) .nil))) .nil)) (.cons (.ret (.cst (.bl false))) .nil) .nil) T)))
def lC (T : Cms) : Cms := (.cons (.ite (.op .nin (.cons (.var 12) (.cons (.var 5) .nil))) (.cons (.ite (.op .ne (.cons (.var 16) (.cons (.op .lst (.cons (.cst (.bl true)) (.cons (.cst (.bl true)) (.cons (.cst (.bl false)) .nil)))) .nil))) (.cons (.ret (.cst (.bl false))) .nil) .nil) .nil) (.cons (.asg 17 (.call 4 (.cons (.var 3) .nil))) (.cons (.ex (.bm .remove (.op .ix (.cons (.var 17) (.cons (.var 10) .nil))) (.cons (.var 12) .nil))) (.cons (.ex (.bm .insert (.op .ix (.cons (.var 17) (.cons (.var 10) .nil))) (.cons (.op .min2 (.cons (.var 13) (.cons (.op .len (.cons (.op .ix (.cons (.var 17) (.cons (.var 10) .nil))) .nil)) .nil))) (.cons (.var 12) .nil)))) (.cons (.ite (.or (.op .ne (.cons (.var 16) (.cons (.op .lst .nil) .nil))) (.op .bnot (.cons (.call 5 (.cons (.var 15) (.cons (.var 17) .nil))) .nil))) (.cons (.ret (.cst (.bl false))) .nil) .nil) (.cons (.ex (.bm .append (.var 6) (.cons (.op .tup (.cons (.var 15) (.cons (.var 17) .nil))) .nil))) (.cons (.asg 3 (.var 17)) .nil))))))) T)
def lD (T : Cms) : Cms := (.cons (.for1 18 (.seq (.op .listOf (.cons (.var 14) .nil))) (.cons (.ex (.bm .append (.op .ix (.cons (.var 14) (.cons (.var 18) .nil))) (.cons (.cst (.str s1)) .nil))) .nil)) T)
theorem b_law_eq : b_law = (.cons (.asg 1 (.call 9 (.cons (.var 0) .nil))) (.cons (.asg 2 (.call 3 (.cons (.call 2 (.cons (.var 0) (.cons (.cst (.int 2)) .nil))) (.cons (.cst (.int 26)) .nil)))) (.cons (.asg 3 (.op .dnT .nil)) (.cons (.for1 4 (.rng1 (.cst (.int 4))) (.cons (.asg 5 (.call 7 (.cons (.var 2) (.cons (.call 2 (.cons (.var 0) (.cons (.op .add (.cons (.cst (.int 3)) (.cons (.var 4) .nil))) .nil))) .nil)))) (.cons (.ite (.op .ne (.cons (.var 5) (.cons (.op .lst .nil) .nil))) (.cons (.setX (.var 3) (.op .ix (.cons (.var 1) (.cons (.var 4) .nil))) (.var 5)) .nil) .nil) .nil))) (.cons (.asg 6 (.op .lst .nil)) (.cons (.asg 7 (.op .cutB (.cons (.var 0) (.cons (.cst (.int 7)) (.cons (.cst (.int 63)) .nil))))) (.cons (.for1 8 (.rng3 (.cst (.int 0)) (.op .len (.cons (.var 7) .nil)) (.cst (.int 3))) (lA (lB (lC (lD .nil))))) (.cons (.forT [15, 17] (.seq (.var 6)) (.cons (.ite (.op .bnot (.cons (.call 5 (.cons (.var 15) (.cons (.var 17) .nil))) .nil)) (.cons (.ret (.cst (.bl false))) .nil) .nil) .nil)) (.cons (.ret (.cst (.bl true))) .nil))))))))) := rfl
structure Hd where
  f : Nat
  mf : List Rw
  d : Nat
  md : List Rw
def Hd.it (h : Hd) : D := .tup [.ref h.f, .ref h.d]
structure Held (S : Sto) (rh : Nat) (hs : List Hd) : Prop where
  at_ : S[rh]? = some (.lst (hs.map Hd.it))
  each : ∀ h ∈ hs, Rows S h.f h.mf ∧ Rows S h.d h.md ∧ Same h.mf h.md ∧ h.d ≠ h.f
/-- what is kept -/
def Keep (P : Nat → Prop) (S S' : Sto) : Prop := ∀ q ob, P q → S[q]? = some ob → S'[q]? = some ob
def RIn (P : Nat → Prop) (r : Nat) (m : List Rw) : Prop := P r ∧ ∀ e ∈ m, P e.2.1
def HIn (P : Nat → Prop) (hs : List Hd) : Prop := ∀ h ∈ hs, RIn P h.f h.mf ∧ RIn P h.d h.md
structure Ok (m : List Rw) : Prop where
  bd : Bd m 5 26
  nd : ∀ e ∈ m, e.2.2.Nodup
theorem Rows.kp {P : Nat → Prop} {S' : Sto} {r : Nat} {m : List Rw} (h : Rows S r m) (z : RIn P r m) (k : Keep P S S') : Rows S' r m := ⟨k _ _ z.1 h.at_, fun e he => k _ _ (z.2 e he) (h.each e he), h.nd⟩
theorem Held.kp {P : Nat → Prop} {S' : Sto} {rh : Nat} {hs : List Hd} (h : Held S rh hs) (p : P rh) (z : HIn P hs) (k : Keep P S S') : Held S' rh hs := ⟨k _ _ p h.at_, fun x hx => ⟨(h.each x hx).1.kp (z x hx).1 k, (h.each x hx).2.1.kp (z x hx).2 k, (h.each x hx).2.2⟩⟩
theorem RIn.imp {P P' : Nat → Prop} {r : Nat} {m : List Rw} (h : RIn P r m) (i : ∀ q, P q → P' q) : RIn P' r m := ⟨i _ h.1, fun e he => i _ (h.2 e he)⟩
theorem HIn.imp {P P' : Nat → Prop} {hs : List Hd} (h : HIn P hs) (i : ∀ q, P q → P' q) : HIn P' hs := fun x hx => ⟨(h x hx).1.imp i, (h x hx).2.imp i⟩
variable {K : Kt}
theorem ten3 {i : Int} (h0 : 0 ≤ i) (h : i < 3) : ∃ z : Int, L2.atI ([.int 5, .int 30, .int 1000000000000000000000000000000000000000000000000000000000000] : List D) i = some (.int z) ∧ 0 < z := by
  have : i = 0 ∨ i = 1 ∨ i = 2 := by omega
  rcases this with rfl | rfl | rfl <;> exact ⟨_, rfl, by decide⟩
theorem sp_lA {T : Cms} {rsh rn rm rc : Nat} {U : List Nm} {ks : List K2} {mm : List Rw} {cs : List Int} {spot : Int} {v0 e4 e5 e6 e9 e10 e11 e12 e13 e14 e15 e16 e17 e18 : Option D}
    (hsh : S[rsh]? = some (.lst (ks.map kd))) (hks : ks.length = 5) (hN : S[rn]? = some (.lst (U.map .str))) (hU : U.length = 26) (hm : Rows S rm mm) (hC : S[rc]? = some (.lst (cs.map .int))) (hs0 : 0 ≤ spot) (hs1 : spot < cs.length)
    (hT : ∀ S' q k nm p e9 e11, Gr S S' → S'[q]? = some (.lst (((cont mm k).getD []).map .str)) → 0 ≤ p → wpCs TT (wpCall TT FT (n + 3)) none T [v0, some (.ref rsh), some (.ref rn), some (.ref rm), e4, some (.ref q), e6, some (.ref rc), some (.int spot), e9, some (kd k), e11, some (.str nm), some (.int p), e14, e15, e16, e17, e18] S' K EX) :
    wpCs TT (wpCall TT FT (n + 3)) none (lA T) [v0, some (.ref rsh), some (.ref rn), some (.ref rm), e4, e5, e6, some (.ref rc), some (.int spot), e9, e10, e11, e12, e13, e14, e15, e16, e17, e18] S K EX := by
  unfold lA
  have c1 : L2.atI (cs.map D.int) spot = some (.int (cs[spot.toNat]'(by omega))) := by
    rw [atI_nn hs0 (by simpa using hs1)]; simp
  simp only [wpCs, wpC, wpT, wpE, wpEs, wpI, asg1, List.getElem?_cons_zero, List.getElem?_cons_succ, List.set_cons_zero, List.set_cons_succ, od_addI, od_addS, od_sub, od_mulI, od_div, od_mod, od_neg, od_not, od_eqI, od_neI, od_ltI, od_le, od_gt, od_ge, od_isN, od_notN, od_inS, od_ninS, od_tup, od_lst, od_dnT, od_lenS, od_lenT, od_lenQ, od_ixT, od_ixQ, od_min, od_int1, od_intB, od_listT, od_tupT, od_cutHQ, List.length_cons, List.length_nil, if_true, true_and, and_true, Bool.not_true, Bool.not_false, Bool.false_eq_true, if_false, ite_true, ite_false, decide_true, decide_false, reduceIte, Option.some.injEq, exists_eq_left', Int.reduceLT, Int.reduceLE, Int.reduceToNat, and_self, true_or, or_true, od_ixL hC, c1]
  refine ⟨.inr (by decide), ?_⟩
  generalize cs[spot.toNat]'(by omega) * 48271 % 2147483647 = cell
  have w0 : 0 ≤ cell % 5 := Int.emod_nonneg _ (by decide)
  have w1 : cell % 5 < 5 := Int.emod_lt_of_pos _ (by decide)
  have n1 : L2.atI (ks.map kd) (cell % 5) = some (kd (ks[(cell % 5).toNat]'(by omega))) := by
    rw [atI_nn w0 (by simp; omega)]; simp
  simp only [od_ixL hsh, n1, wpCs, wpC, wpT, wpE, wpEs, wpI, asg1, List.getElem?_cons_zero, List.getElem?_cons_succ, List.set_cons_zero, List.set_cons_succ, od_addI, od_addS, od_sub, od_mulI, od_div, od_mod, od_neg, od_not, od_eqI, od_neI, od_ltI, od_le, od_gt, od_ge, od_isN, od_notN, od_inS, od_ninS, od_tup, od_lst, od_dnT, od_lenS, od_lenT, od_lenQ, od_ixT, od_ixQ, od_min, od_int1, od_intB, od_listT, od_tupT, od_cutHQ, List.length_cons, List.length_nil, if_true, true_and, and_true, Bool.not_true, Bool.not_false, Bool.false_eq_true, if_false, ite_true, ite_false, decide_true, decide_false, reduceIte, Option.some.injEq, exists_eq_left', Int.reduceLT, Int.reduceLE, Int.reduceToNat, and_self, true_or, or_true, tk_get hm.at_]
  generalize ks[(cell % 5).toNat]'(by omega) = k
  refine ⟨by decide, ?_⟩
  have g1 : Gr S (S ++ [Ob.lst []]) := Gr.push _ _
  obtain ⟨q, eq, hrow⟩ := get_row (k := k) (hm.gr g1) (at_push S (Ob.lst []))
  rw [od_get2 (hm.gr g1).at_ (keyOk_kd k), eq]
  generalize S ++ [Ob.lst []] = S1 at *
  try simp only [wpCs, wpC, wpT, wpE, wpEs, wpI, asg1, List.getElem?_cons_zero, List.getElem?_cons_succ, List.set_cons_zero, List.set_cons_succ, od_addI, od_addS, od_sub, od_mulI, od_div, od_mod, od_neg, od_not, od_eqI, od_neI, od_ltI, od_le, od_gt, od_ge, od_isN, od_notN, od_inS, od_ninS, od_tup, od_lst, od_dnT, od_lenS, od_lenT, od_lenQ, od_ixT, od_ixQ, od_min, od_int1, od_intB, od_listT, od_tupT, od_cutHQ, List.length_cons, List.length_nil, if_true, true_and, and_true, Bool.not_true, Bool.not_false, Bool.false_eq_true, if_false, ite_true, ite_false, decide_true, decide_false, reduceIte, Option.some.injEq, exists_eq_left', Int.reduceLT, Int.reduceLE, Int.reduceToNat, and_self, true_or, or_true]
  refine sp_cell (by omega) (g1 _ _ hC) fun z => ?_
  have vz0 : 0 ≤ z % 26 := Int.emod_nonneg _ (by decide)
  have vz1 : z % 26 < 26 := Int.emod_lt_of_pos _ (by decide)
  have n2 : L2.atI (U.map D.str) (z % 26) = some (.str (U[(z % 26).toNat]'(by omega))) := by
    rw [atI_nn vz0 (by simp; omega)]; simp
  try simp only [wpCs, wpC, wpT, wpE, wpEs, wpI, asg1, List.getElem?_cons_zero, List.getElem?_cons_succ, List.set_cons_zero, List.set_cons_succ, od_addI, od_addS, od_sub, od_mulI, od_div, od_mod, od_neg, od_not, od_eqI, od_neI, od_ltI, od_le, od_gt, od_ge, od_isN, od_notN, od_inS, od_ninS, od_tup, od_lst, od_dnT, od_lenS, od_lenT, od_lenQ, od_ixT, od_ixQ, od_min, od_int1, od_intB, od_listT, od_tupT, od_cutHQ, List.length_cons, List.length_nil, if_true, true_and, and_true, Bool.not_true, Bool.not_false, Bool.false_eq_true, if_false, ite_true, ite_false, decide_true, decide_false, reduceIte, Option.some.injEq, exists_eq_left', Int.reduceLT, Int.reduceLE, Int.reduceToNat, and_self, true_or, or_true]
  simp only [od_ixL (g1 _ _ hN), n2, wpCs, wpC, wpT, wpE, wpEs, wpI, asg1, List.getElem?_cons_zero, List.getElem?_cons_succ, List.set_cons_zero, List.set_cons_succ, od_addI, od_addS, od_sub, od_mulI, od_div, od_mod, od_neg, od_not, od_eqI, od_neI, od_ltI, od_le, od_gt, od_ge, od_isN, od_notN, od_inS, od_ninS, od_tup, od_lst, od_dnT, od_lenS, od_lenT, od_lenQ, od_ixT, od_ixQ, od_min, od_int1, od_intB, od_listT, od_tupT, od_cutHQ, List.length_cons, List.length_nil, if_true, true_and, and_true, Bool.not_true, Bool.not_false, Bool.false_eq_true, if_false, ite_true, ite_false, decide_true, decide_false, reduceIte, Option.some.injEq, exists_eq_left', Int.reduceLT, Int.reduceLE, Int.reduceToNat, and_self, true_or, or_true]
  generalize U[(z % 26).toNat]'(by omega) = nm0
  refine ⟨by decide, ?_⟩
  rw [od_ne]
  have g2 : Gr S1 (S1 ++ [Ob.lst []]) := Gr.push _ _
  refine ⟨_, eq_strs (t := []) (g2 _ _ hrow) (at_push _ _), ?_⟩
  have hrow2 := g2 _ _ hrow
  have g12 := g1.trans g2
  generalize S1 ++ [Ob.lst []] = S2 at *
  have fin : ∀ nm e11, wpCs TT (wpCall TT FT (n + 3)) none (lA2 T) [v0, some (.ref rsh), some (.ref rn), some (.ref rm), e4, some (.ref q), e6, some (.ref rc), some (.int spot), some (.int cell), some (kd k), e11, some (.str nm), e13, e14, e15, e16, e17, e18] S2 K EX := fun nm e11 => by
    unfold lA2
    simp only [wpCs, wpC, wpT, wpE, wpEs, wpI, asg1, List.getElem?_cons_zero, List.getElem?_cons_succ, List.set_cons_zero, List.set_cons_succ, od_addI, od_addS, od_sub, od_mulI, od_div, od_mod, od_neg, od_not, od_eqI, od_neI, od_ltI, od_le, od_gt, od_ge, od_isN, od_notN, od_inS, od_ninS, od_tup, od_lst, od_dnT, od_lenS, od_lenT, od_lenQ, od_ixT, od_ixQ, od_min, od_int1, od_intB, od_listT, od_tupT, od_cutHQ, List.length_cons, List.length_nil, if_true, true_and, and_true, Bool.not_true, Bool.not_false, Bool.false_eq_true, if_false, ite_true, ite_false, decide_true, decide_false, reduceIte, Option.some.injEq, exists_eq_left', Int.reduceLT, Int.reduceLE, Int.reduceToNat, and_self, true_or, or_true]
    refine sp_cell (by omega) (g12 _ _ hC) fun y => ?_
    try simp only [wpCs, wpC, wpT, wpE, wpEs, wpI, asg1, List.getElem?_cons_zero, List.getElem?_cons_succ, List.set_cons_zero, List.set_cons_succ, od_addI, od_addS, od_sub, od_mulI, od_div, od_mod, od_neg, od_not, od_eqI, od_neI, od_ltI, od_le, od_gt, od_ge, od_isN, od_notN, od_inS, od_ninS, od_tup, od_lst, od_dnT, od_lenS, od_lenT, od_lenQ, od_ixT, od_ixQ, od_min, od_int1, od_intB, od_listT, od_tupT, od_cutHQ, List.length_cons, List.length_nil, if_true, true_and, and_true, Bool.not_true, Bool.not_false, Bool.false_eq_true, if_false, ite_true, ite_false, decide_true, decide_false, reduceIte, Option.some.injEq, exists_eq_left', Int.reduceLT, Int.reduceLE, Int.reduceToNat, and_self, true_or, or_true]
    simp only [p60, wpCs, wpC, wpT, wpE, wpEs, wpI, asg1, List.getElem?_cons_zero, List.getElem?_cons_succ, List.set_cons_zero, List.set_cons_succ, od_addI, od_addS, od_sub, od_mulI, od_div, od_mod, od_neg, od_not, od_eqI, od_neI, od_ltI, od_le, od_gt, od_ge, od_isN, od_notN, od_inS, od_ninS, od_tup, od_lst, od_dnT, od_lenS, od_lenT, od_lenQ, od_ixT, od_ixQ, od_min, od_int1, od_intB, od_listT, od_tupT, od_cutHQ, List.length_cons, List.length_nil, if_true, true_and, and_true, Bool.not_true, Bool.not_false, Bool.false_eq_true, if_false, ite_true, ite_false, decide_true, decide_false, reduceIte, Option.some.injEq, exists_eq_left', Int.reduceLT, Int.reduceLE, Int.reduceToNat, and_self, true_or, or_true]
    refine ⟨by decide, ?_⟩
    rw [od_ixL (at_push _ _)]
    obtain ⟨t, ht, ht0⟩ := ten3 (i := cell / 15 % 3) (Int.emod_nonneg _ (by decide)) (Int.emod_lt_of_pos _ (by decide))
    refine ⟨_, ht, ?_⟩
    try simp only [wpCs, wpC, wpT, wpE, wpEs, wpI, asg1, List.getElem?_cons_zero, List.getElem?_cons_succ, List.set_cons_zero, List.set_cons_succ, od_addI, od_addS, od_sub, od_mulI, od_div, od_mod, od_neg, od_not, od_eqI, od_neI, od_ltI, od_le, od_gt, od_ge, od_isN, od_notN, od_inS, od_ninS, od_tup, od_lst, od_dnT, od_lenS, od_lenT, od_lenQ, od_ixT, od_ixQ, od_min, od_int1, od_intB, od_listT, od_tupT, od_cutHQ, List.length_cons, List.length_nil, if_true, true_and, and_true, Bool.not_true, Bool.not_false, Bool.false_eq_true, if_false, ite_true, ite_false, decide_true, decide_false, reduceIte, Option.some.injEq, exists_eq_left', Int.reduceLT, Int.reduceLE, Int.reduceToNat, and_self, true_or, or_true]
    refine ⟨by omega, ?_⟩
    exact hT _ q k nm (y % t) _ _ (g12.trans (Gr.push _ _)) (Gr.push _ _ _ _ hrow2) (Int.emod_nonneg _ (by omega))
  unfold lA2 at fin
  generalize hrw : (cont mm k).getD [] = row at *
  by_cases hre : row = []
  · simp only [hre, decide_true, wpCs, wpC, wpT, wpE, wpEs, wpI, asg1, List.getElem?_cons_zero, List.getElem?_cons_succ, List.set_cons_zero, List.set_cons_succ, od_addI, od_addS, od_sub, od_mulI, od_div, od_mod, od_neg, od_not, od_eqI, od_neI, od_ltI, od_le, od_gt, od_ge, od_isN, od_notN, od_inS, od_ninS, od_tup, od_lst, od_dnT, od_lenS, od_lenT, od_lenQ, od_ixT, od_ixQ, od_min, od_int1, od_intB, od_listT, od_tupT, od_cutHQ, List.length_cons, List.length_nil, if_true, true_and, and_true, Bool.not_true, Bool.not_false, Bool.false_eq_true, if_false, ite_true, ite_false, decide_true, decide_false, reduceIte, Option.some.injEq, exists_eq_left', Int.reduceLT, Int.reduceLE, Int.reduceToNat, and_self, true_or, or_true]
    have := fin nm0 (some (.int z))
    simp only [wpCs, wpC, wpT, wpE, wpEs, wpI, asg1, List.getElem?_cons_zero, List.getElem?_cons_succ, List.set_cons_zero, List.set_cons_succ, od_addI, od_addS, od_sub, od_mulI, od_div, od_mod, od_neg, od_not, od_eqI, od_neI, od_ltI, od_le, od_gt, od_ge, od_isN, od_notN, od_inS, od_ninS, od_tup, od_lst, od_dnT, od_lenS, od_lenT, od_lenQ, od_ixT, od_ixQ, od_min, od_int1, od_intB, od_listT, od_tupT, od_cutHQ, List.length_cons, List.length_nil, if_true, true_and, and_true, Bool.not_true, Bool.not_false, Bool.false_eq_true, if_false, ite_true, ite_false, decide_true, decide_false, reduceIte, Option.some.injEq, exists_eq_left', Int.reduceLT, Int.reduceLE, Int.reduceToNat, and_self, true_or, or_true] at this
    exact this
  · simp only [hre, decide_false, wpCs, wpC, wpT, wpE, wpEs, wpI, asg1, List.getElem?_cons_zero, List.getElem?_cons_succ, List.set_cons_zero, List.set_cons_succ, od_addI, od_addS, od_sub, od_mulI, od_div, od_mod, od_neg, od_not, od_eqI, od_neI, od_ltI, od_le, od_gt, od_ge, od_isN, od_notN, od_inS, od_ninS, od_tup, od_lst, od_dnT, od_lenS, od_lenT, od_lenQ, od_ixT, od_ixQ, od_min, od_int1, od_intB, od_listT, od_tupT, od_cutHQ, List.length_cons, List.length_nil, if_true, true_and, and_true, Bool.not_true, Bool.not_false, Bool.false_eq_true, if_false, ite_true, ite_false, decide_true, decide_false, reduceIte, Option.some.injEq, exists_eq_left', Int.reduceLT, Int.reduceLE, Int.reduceToNat, and_self, true_or, or_true]
    by_cases hc : 0 < cell / 5 % 3
    · simp only [hc, wpCs, wpC, wpT, wpE, wpEs, wpI, asg1, List.getElem?_cons_zero, List.getElem?_cons_succ, List.set_cons_zero, List.set_cons_succ, od_addI, od_addS, od_sub, od_mulI, od_div, od_mod, od_neg, od_not, od_eqI, od_neI, od_ltI, od_le, od_gt, od_ge, od_isN, od_notN, od_inS, od_ninS, od_tup, od_lst, od_dnT, od_lenS, od_lenT, od_lenQ, od_ixT, od_ixQ, od_min, od_int1, od_intB, od_listT, od_tupT, od_cutHQ, List.length_cons, List.length_nil, if_true, true_and, and_true, Bool.not_true, Bool.not_false, Bool.false_eq_true, if_false, ite_true, ite_false, decide_true, decide_false, reduceIte, Option.some.injEq, exists_eq_left', Int.reduceLT, Int.reduceLE, Int.reduceToNat, and_self, true_or, or_true, od_lenL hrow2, List.length_map]
      have hl : 0 < row.length := List.length_pos_iff.mpr hre
      have u0 : 0 ≤ z % (row.length : Int) := Int.emod_nonneg _ (by omega)
      have u1 : z % (row.length : Int) < row.length := Int.emod_lt_of_pos _ (by omega)
      refine ⟨by omega, ?_⟩
      rw [od_ixL hrow2]
      refine ⟨_, atI_nn u0 (by simpa using u1), ?_⟩
      rw [List.getElem_map]
      have := fin (row[(z % (row.length : Int)).toNat]'(by omega)) (some (.int z))
      simp only [wpCs, wpC, wpT, wpE, wpEs, wpI, asg1, List.getElem?_cons_zero, List.getElem?_cons_succ, List.set_cons_zero, List.set_cons_succ, od_addI, od_addS, od_sub, od_mulI, od_div, od_mod, od_neg, od_not, od_eqI, od_neI, od_ltI, od_le, od_gt, od_ge, od_isN, od_notN, od_inS, od_ninS, od_tup, od_lst, od_dnT, od_lenS, od_lenT, od_lenQ, od_ixT, od_ixQ, od_min, od_int1, od_intB, od_listT, od_tupT, od_cutHQ, List.length_cons, List.length_nil, if_true, true_and, and_true, Bool.not_true, Bool.not_false, Bool.false_eq_true, if_false, ite_true, ite_false, decide_true, decide_false, reduceIte, Option.some.injEq, exists_eq_left', Int.reduceLT, Int.reduceLE, Int.reduceToNat, and_self, true_or, or_true] at this
      try simp only [wpCs, wpC, wpT, wpE, wpEs, wpI, asg1, List.getElem?_cons_zero, List.getElem?_cons_succ, List.set_cons_zero, List.set_cons_succ, od_addI, od_addS, od_sub, od_mulI, od_div, od_mod, od_neg, od_not, od_eqI, od_neI, od_ltI, od_le, od_gt, od_ge, od_isN, od_notN, od_inS, od_ninS, od_tup, od_lst, od_dnT, od_lenS, od_lenT, od_lenQ, od_ixT, od_ixQ, od_min, od_int1, od_intB, od_listT, od_tupT, od_cutHQ, List.length_cons, List.length_nil, if_true, true_and, and_true, Bool.not_true, Bool.not_false, Bool.false_eq_true, if_false, ite_true, ite_false, decide_true, decide_false, reduceIte, Option.some.injEq, exists_eq_left', Int.reduceLT, Int.reduceLE, Int.reduceToNat, and_self, true_or, or_true]
      exact this
    · simp only [hc, wpCs, wpC, wpT, wpE, wpEs, wpI, asg1, List.getElem?_cons_zero, List.getElem?_cons_succ, List.set_cons_zero, List.set_cons_succ, od_addI, od_addS, od_sub, od_mulI, od_div, od_mod, od_neg, od_not, od_eqI, od_neI, od_ltI, od_le, od_gt, od_ge, od_isN, od_notN, od_inS, od_ninS, od_tup, od_lst, od_dnT, od_lenS, od_lenT, od_lenQ, od_ixT, od_ixQ, od_min, od_int1, od_intB, od_listT, od_tupT, od_cutHQ, List.length_cons, List.length_nil, if_true, true_and, and_true, Bool.not_true, Bool.not_false, Bool.false_eq_true, if_false, ite_true, ite_false, decide_true, decide_false, reduceIte, Option.some.injEq, exists_eq_left', Int.reduceLT, Int.reduceLE, Int.reduceToNat, and_self, true_or, or_true]
      have := fin nm0 (some (.int z))
      simp only [wpCs, wpC, wpT, wpE, wpEs, wpI, asg1, List.getElem?_cons_zero, List.getElem?_cons_succ, List.set_cons_zero, List.set_cons_succ, od_addI, od_addS, od_sub, od_mulI, od_div, od_mod, od_neg, od_not, od_eqI, od_neI, od_ltI, od_le, od_gt, od_ge, od_isN, od_notN, od_inS, od_ninS, od_tup, od_lst, od_dnT, od_lenS, od_lenT, od_lenQ, od_ixT, od_ixQ, od_min, od_int1, od_intB, od_listT, od_tupT, od_cutHQ, List.length_cons, List.length_nil, if_true, true_and, and_true, Bool.not_true, Bool.not_false, Bool.false_eq_true, if_false, ite_true, ite_false, decide_true, decide_false, reduceIte, Option.some.injEq, exists_eq_left', Int.reduceLT, Int.reduceLE, Int.reduceToNat, and_self, true_or, or_true] at this
      exact this
theorem sp_lB {T : Cms} {rm q : Nat} {mm : List Rw} {k : K2} {nm : Nm} {p : Int} {v0 e1 e2 e4 e6 e7 e8 e9 e11 e14 e15 e16 e17 e18 : Option D}
    (hm : Rows S rm mm) (ok : Ok mm) (hrow : S[q]? = some (.lst (((cont mm k).getD []).map .str))) (hp : 0 ≤ p)
    (hno : nm ∉ (cont mm k).getD [] → ∀ S' rhd mh rk b, Gr S S' → Rows S' rhd mh → Fr S.length rhd mh → Bd mh 5 26 → (∀ e ∈ mh, e.2.1 < b) → b ≤ S'.length → S'[rk]? = some (.lst [.bl true, .bl true, .bl false]) → wpCs TT (wpCall TT FT (n + 3)) none T [v0, e1, e2, some (.ref rm), e4, some (.ref q), e6, e7, e8, e9, some (kd k), e11, some (.str nm), some (.int p), some (.ref rhd), some .non, some (.ref rk), e17, e18] S' K EX)
    (hyes : nm ∈ (cont mm k).getD [] → ∀ S' rhd mh rk b rf mf, Gr S S' → Rows S' rhd mh → Fr S.length rhd mh → Bd mh 5 26 → (∀ e ∈ mh, e.2.1 < b) → S.length ≤ b → b ≤ S'.length → S'[rk]? = some (.lst []) → Rows S' rf mf → Fr b rf mf → (∀ k', cont mf k' = if k' = k then some (ins ((cont mm k).getD []) nm p) else cont mm k') → wpCs TT (wpCall TT FT (n + 3)) none T [v0, e1, e2, some (.ref rm), e4, some (.ref q), e6, e7, e8, e9, some (kd k), e11, some (.str nm), some (.int p), some (.ref rhd), some (.ref rf), some (.ref rk), e17, e18] S' K EX) :
    wpCs TT (wpCall TT FT (n + 3)) none (lB T) [v0, e1, e2, some (.ref rm), e4, some (.ref q), e6, e7, e8, e9, some (kd k), e11, some (.str nm), some (.int p), e14, e15, e16, e17, e18] S K EX := by
  unfold lB
  simp only [wpCs, wpC, wpT, wpE, wpEs, wpI, asg1, List.getElem?_cons_zero, List.getElem?_cons_succ, List.set_cons_zero, List.set_cons_succ, od_addI, od_addS, od_sub, od_mulI, od_div, od_mod, od_neg, od_not, od_eqI, od_neI, od_ltI, od_le, od_gt, od_ge, od_isN, od_notN, od_inS, od_ninS, od_tup, od_lst, od_dnT, od_lenS, od_lenT, od_lenQ, od_ixT, od_ixQ, od_min, od_int1, od_intB, od_listT, od_tupT, od_cutHQ, List.length_cons, List.length_nil, if_true, true_and, and_true, Bool.not_true, Bool.not_false, Bool.false_eq_true, if_false, ite_true, ite_false, decide_true, decide_false, reduceIte, Option.some.injEq, exists_eq_left', Int.reduceLT, Int.reduceLE, Int.reduceToNat, and_self, true_or, or_true]
  refine sp_copy (n := n + 2) hm ok.bd (by omega) (by omega) fun S1 rhd mh g1 hh cc fr bd1 => ?_
  try simp only [wpCs, wpC, wpT, wpE, wpEs, wpI, asg1, List.getElem?_cons_zero, List.getElem?_cons_succ, List.set_cons_zero, List.set_cons_succ, od_addI, od_addS, od_sub, od_mulI, od_div, od_mod, od_neg, od_not, od_eqI, od_neI, od_ltI, od_le, od_gt, od_ge, od_isN, od_notN, od_inS, od_ninS, od_tup, od_lst, od_dnT, od_lenS, od_lenT, od_lenQ, od_ixT, od_ixQ, od_min, od_int1, od_intB, od_listT, od_tupT, od_cutHQ, List.length_cons, List.length_nil, if_true, true_and, and_true, Bool.not_true, Bool.not_false, Bool.false_eq_true, if_false, ite_true, ite_false, decide_true, decide_false, reduceIte, Option.some.injEq, exists_eq_left', Int.reduceLT, Int.reduceLE, Int.reduceToNat, and_self, true_or, or_true]
  have hct : ∀ k', cont mh k' = cont mm k' := same_cnt cc
  have hlr : ((cont mh k).getD []).length ≤ 1000 := by
    cases e : cont mh k with
    | none => simp
    | some l =>
      obtain ⟨f, hf, ek, el⟩ := cont_some e
      have := bd1.sm f hf
      simp only [Option.getD_some, ← el]; omega
  have hlt : ∀ e ∈ mh, e.2.1 < S1.length := fun e he => at_lt (hh.each e he)
  have hne : ∀ {S' : Sto}, Gr S S' → rm ≠ rhd := fun _ => by have := at_lt hm.at_; have := fr.d; omega
  refine sp_tried (n := n) hh bd1 (by omega) (by omega) hp hlr (fun hin S' rk g hk => ?_) fun hin S' rf rk mf g hf ff hk hc => ?_
  · rw [hct] at hin
    try simp only [wpCs, wpC, wpT, wpE, wpEs, wpI, asg1, List.getElem?_cons_zero, List.getElem?_cons_succ, List.set_cons_zero, List.set_cons_succ, od_addI, od_addS, od_sub, od_mulI, od_div, od_mod, od_neg, od_not, od_eqI, od_neI, od_ltI, od_le, od_gt, od_ge, od_isN, od_notN, od_inS, od_ninS, od_tup, od_lst, od_dnT, od_lenS, od_lenT, od_lenQ, od_ixT, od_ixQ, od_min, od_int1, od_intB, od_listT, od_tupT, od_cutHQ, List.length_cons, List.length_nil, if_true, true_and, and_true, Bool.not_true, Bool.not_false, Bool.false_eq_true, if_false, ite_true, ite_false, decide_true, decide_false, reduceIte, Option.some.injEq, exists_eq_left', Int.reduceLT, Int.reduceLE, Int.reduceToNat, and_self, true_or, or_true, asgT]
    refine sp_same (n := n + 2) (hh.gr g) (hm.gr (g1.trans g)) (hne g1) (same_cnt cc) ?_
    simp only [wpCs, wpC, wpT, wpE, wpEs, wpI, asg1, List.getElem?_cons_zero, List.getElem?_cons_succ, List.set_cons_zero, List.set_cons_succ, od_addI, od_addS, od_sub, od_mulI, od_div, od_mod, od_neg, od_not, od_eqI, od_neI, od_ltI, od_le, od_gt, od_ge, od_isN, od_notN, od_inS, od_ninS, od_tup, od_lst, od_dnT, od_lenS, od_lenT, od_lenQ, od_ixT, od_ixQ, od_min, od_int1, od_intB, od_listT, od_tupT, od_cutHQ, List.length_cons, List.length_nil, if_true, true_and, and_true, Bool.not_true, Bool.not_false, Bool.false_eq_true, if_false, ite_true, ite_false, decide_true, decide_false, reduceIte, Option.some.injEq, exists_eq_left', Int.reduceLT, Int.reduceLE, Int.reduceToNat, and_self, true_or, or_true]
    exact hno hin _ _ _ _ S1.length (g1.trans g) (hh.gr g) fr bd1 hlt g.len hk
  · rw [hct] at hin hc
    try simp only [wpCs, wpC, wpT, wpE, wpEs, wpI, asg1, List.getElem?_cons_zero, List.getElem?_cons_succ, List.set_cons_zero, List.set_cons_succ, od_addI, od_addS, od_sub, od_mulI, od_div, od_mod, od_neg, od_not, od_eqI, od_neI, od_ltI, od_le, od_gt, od_ge, od_isN, od_notN, od_inS, od_ninS, od_tup, od_lst, od_dnT, od_lenS, od_lenT, od_lenQ, od_ixT, od_ixQ, od_min, od_int1, od_intB, od_listT, od_tupT, od_cutHQ, List.length_cons, List.length_nil, if_true, true_and, and_true, Bool.not_true, Bool.not_false, Bool.false_eq_true, if_false, ite_true, ite_false, decide_true, decide_false, reduceIte, Option.some.injEq, exists_eq_left', Int.reduceLT, Int.reduceLE, Int.reduceToNat, and_self, true_or, or_true, asgT]
    refine sp_same (n := n + 2) (hh.gr g) (hm.gr (g1.trans g)) (hne g1) (same_cnt cc) ?_
    simp only [wpCs, wpC, wpT, wpE, wpEs, wpI, asg1, List.getElem?_cons_zero, List.getElem?_cons_succ, List.set_cons_zero, List.set_cons_succ, od_addI, od_addS, od_sub, od_mulI, od_div, od_mod, od_neg, od_not, od_eqI, od_neI, od_ltI, od_le, od_gt, od_ge, od_isN, od_notN, od_inS, od_ninS, od_tup, od_lst, od_dnT, od_lenS, od_lenT, od_lenQ, od_ixT, od_ixQ, od_min, od_int1, od_intB, od_listT, od_tupT, od_cutHQ, List.length_cons, List.length_nil, if_true, true_and, and_true, Bool.not_true, Bool.not_false, Bool.false_eq_true, if_false, ite_true, ite_false, decide_true, decide_false, reduceIte, Option.some.injEq, exists_eq_left', Int.reduceLT, Int.reduceLE, Int.reduceToNat, and_self, true_or, or_true]
    refine hyes hin _ _ _ _ S1.length _ _ (g1.trans g) (hh.gr g) fr bd1 hlt g1.len g.len hk hf ff fun k' => ?_
    rw [hc k']
    split
    · rfl
    · exact hct k'
theorem sp_lCno {T : Cms} {rk q : Nat} {row : List Nm} {nm : Nm} {v0 e1 e2 e3 e4 e6 e7 e8 e9 e10 e11 e13 e14 e15 e17 e18 : Option D}
    (hrow : S[q]? = some (.lst (row.map .str))) (hin : nm ∉ row) (hk : S[rk]? = some (.lst [.bl true, .bl true, .bl false]))
    (hT : ∀ S', Gr S S' → wpCs TT (wpCall TT FT (n + 3)) none T [v0, e1, e2, e3, e4, some (.ref q), e6, e7, e8, e9, e10, e11, some (.str nm), e13, e14, e15, some (.ref rk), e17, e18] S' K EX) :
    wpCs TT (wpCall TT FT (n + 3)) none (lC T) [v0, e1, e2, e3, e4, some (.ref q), e6, e7, e8, e9, e10, e11, some (.str nm), e13, e14, e15, some (.ref rk), e17, e18] S K EX := by
  unfold lC
  have i1 : ∀ Q, opD TT .nin [.str nm, .ref q] S Q = Q (.bl (!decide (nm ∈ row))) S := fun Q => od_ninL hrow (in_str _ _)
  simp only [wpCs, wpC, wpT, wpE, wpEs, wpI, asg1, List.getElem?_cons_zero, List.getElem?_cons_succ, List.set_cons_zero, List.set_cons_succ, od_addI, od_addS, od_sub, od_mulI, od_div, od_mod, od_neg, od_not, od_eqI, od_neI, od_ltI, od_le, od_gt, od_ge, od_isN, od_notN, od_inS, od_ninS, od_tup, od_lst, od_dnT, od_lenS, od_lenT, od_lenQ, od_ixT, od_ixQ, od_min, od_int1, od_intB, od_listT, od_tupT, od_cutHQ, List.length_cons, List.length_nil, if_true, true_and, and_true, Bool.not_true, Bool.not_false, Bool.false_eq_true, if_false, ite_true, ite_false, decide_true, decide_false, reduceIte, Option.some.injEq, exists_eq_left', Int.reduceLT, Int.reduceLE, Int.reduceToNat, and_self, true_or, or_true, i1, hin]
  refine ⟨by decide, ?_⟩
  rw [od_ne]
  have g1 : Gr S (S ++ [Ob.lst [.bl true, .bl true, .bl false]]) := Gr.push _ _
  refine ⟨_, eq_bls (g1 _ _ hk) (at_push _ _), ?_⟩
  simp only [wpCs, wpC, wpT, wpE, wpEs, wpI, asg1, List.getElem?_cons_zero, List.getElem?_cons_succ, List.set_cons_zero, List.set_cons_succ, od_addI, od_addS, od_sub, od_mulI, od_div, od_mod, od_neg, od_not, od_eqI, od_neI, od_ltI, od_le, od_gt, od_ge, od_isN, od_notN, od_inS, od_ninS, od_tup, od_lst, od_dnT, od_lenS, od_lenT, od_lenQ, od_ixT, od_ixQ, od_min, od_int1, od_intB, od_listT, od_tupT, od_cutHQ, List.length_cons, List.length_nil, if_true, true_and, and_true, Bool.not_true, Bool.not_false, Bool.false_eq_true, if_false, ite_true, ite_false, decide_true, decide_false, reduceIte, Option.some.injEq, exists_eq_left', Int.reduceLT, Int.reduceLE, Int.reduceToNat, and_self, true_or, or_true]
  exact hT _ g1
theorem ins_eq {row : List Nm} (nd : row.Nodup) {nm : Nm} {p : Int} : oth row nm = row.erase nm := by
  rw [nd.erase_eq_filter]
  unfold oth
  congr 1
  funext s
  by_cases h : s = nm <;> simp [h]
theorem ins_ok {row : List Nm} (nd : row.Nodup) {nm : Nm} (hin : nm ∈ row) {p : Int} : (ins row nm p).Nodup ∧ (ins row nm p).length = row.length := by
  unfold ins
  rw [ins_eq (p := p) nd]
  generalize (if ((row.erase nm).length : Int) < p then ((row.erase nm).length : Int) else p).toNat = i
  have pe : ((row.erase nm).take i ++ nm :: (row.erase nm).drop i).Perm row := by
    refine List.perm_middle.trans ?_
    rw [List.take_append_drop]
    exact (List.perm_cons_erase hin).symm
  exact ⟨pe.nodup_iff.mpr nd, pe.length_eq⟩
def updR (m : List Rw) (k : K2) (l : List Nm) : List Rw := m.map fun e => if e.1 = k then (e.1, e.2.1, l) else e
theorem kvs_upd (m : List Rw) (k : K2) (l : List Nm) : kvs (updR m k l) = kvs m := by
  unfold kvs updR
  rw [List.map_map]
  congr 1
  funext e
  simp only [Function.comp]
  split <;> rfl
theorem keys_upd (m : List Rw) (k : K2) (l : List Nm) : (updR m k l).map (·.1) = m.map (·.1) := by
  unfold updR
  rw [List.map_map]
  congr 1
  funext e
  simp only [Function.comp]
  split <;> rfl
theorem refs_upd (m : List Rw) (k : K2) (l : List Nm) : (updR m k l).map (·.2.1) = m.map (·.2.1) := by
  unfold updR
  rw [List.map_map]
  congr 1
  funext e
  simp only [Function.comp]
  split <;> rfl
theorem cont_upd (m : List Rw) (k : K2) (l : List Nm) (k' : K2) : cont (updR m k l) k' = if k' = k then (cont m k).map (fun _ => l) else cont m k' := by
  unfold cont updR
  induction m with
  | nil => simp
  | cons e m ih =>
    rw [List.map_cons, List.find?_cons, List.find?_cons, List.find?_cons]
    by_cases h1 : e.1 = k
    · by_cases h2 : k' = k
      · subst h2; simp [h1]
      · have h3 : ¬ k = k' := fun z => h2 z.symm
        rw [if_neg h2] at ih
        simp only [h1, if_true, h3, h2, if_false, decide_false]
        exact ih
    · by_cases h2 : e.1 = k'
      · have h3 : ¬ k' = k := fun z => h1 (h2.trans z)
        simp [h1, h2, h3]
      · simp only [h1, h2, if_false, decide_false]
        exact ih
theorem upd_mem {m : List Rw} {k : K2} {l : List Nm} {e : Rw} (h : e ∈ updR m k l) : (e ∈ m ∧ e.1 ≠ k) ∨ (∃ f ∈ m, f.1 = k ∧ e = (k, f.2.1, l)) := by
  obtain ⟨f, hf, rfl⟩ := List.mem_map.mp h
  by_cases c : f.1 = k
  · rw [if_pos c]; exact .inr ⟨f, hf, c, by rw [c]⟩
  · rw [if_neg c]; exact .inl ⟨hf, c⟩
theorem nodup_map_inj {α β : Type} {f : α → β} : ∀ {l : List α}, (l.map f).Nodup → ∀ {a b : α}, a ∈ l → b ∈ l → f a = f b → a = b
  | [], _, a, b, ha, _, _ => nomatch ha
  | x :: l, nd, a, b, ha, hb, e => by
    rw [List.map_cons, List.nodup_cons] at nd
    rcases List.mem_cons.mp ha with e1 | ha' <;> rcases List.mem_cons.mp hb with e2 | hb'
    · rw [e1, e2]
    · exact absurd (List.mem_map.mpr ⟨b, hb', by rw [← e, e1]⟩) nd.1
    · exact absurd (List.mem_map.mpr ⟨a, ha', by rw [e, e2]⟩) nd.1
    · exact nodup_map_inj nd.2 ha' hb' e
theorem Rows.upd {rd : Nat} {m : List Rw} {e : Rw} (h : Rows S rd m) (nd : (m.map (·.2.1)).Nodup) (he : e ∈ m) (l : List Nm) : Rows (S.set e.2.1 (.lst (l.map .str))) rd (updR m e.1 l) := by
  have h1 := h.each e he
  have hne : e.2.1 ≠ rd := fun z => by rw [z, h.at_] at h1; cases h1
  refine ⟨by rw [kvs_upd, List.getElem?_set_ne hne]; exact h.at_, fun f hf => ?_, by rw [keys_upd]; exact h.nd⟩
  rcases upd_mem hf with ⟨hf, hk⟩ | ⟨g, hg, hk, rfl⟩
  · rw [List.getElem?_set_ne fun z => ?_]
    · exact h.each f hf
    · exact hk (congrArg (·.1) (nodup_map_inj nd hf he z.symm))
  · have : g = e := nodup_map_inj h.nd hg he hk
    subst this
    exact at_set h1
theorem op_remove : opF TT .remove = oRemove := rfl
theorem mapM_strs : ∀ ss : List Nm, ((ss.map D.str).mapM fun d => match d with
    | .str s => some s
    | _ => none) = some ss
  | [] => rfl
  | s :: ss => by rw [List.map_cons, List.mapM_cons, mapM_strs ss]; rfl
theorem od_remove {r : Nat} {ss : List Nm} {x : Nm} (h : S[r]? = some (.lst (ss.map .str))) (hx : x ∈ ss) : opD TT .remove [.ref r, .str x] S Q = Q .non (S.set r (.lst ((ss.erase x).map .str))) := od_some (z := (.non, S.set r (.lst ((ss.erase x).map .str)))) (by
  rw [op_remove]
  unfold oRemove
  simp only [h]
  have := mapM_strs ss
  split
  · rename_i e
    have e2 := Option.some.inj (e.symm.trans this)
    subst e2
    rw [if_pos hx]
  · rename_i e
    exact nomatch (e.symm.trans this))
theorem op_insert : opF TT .insert = oInsert := rfl
theorem od_insert {r : Nat} {ds : List D} {i : Int} (h : S[r]? = some (.lst ds)) : opD TT .insert [.ref r, .int i, d] S Q = ((ds.length < LIM ∧ 0 ≤ i ∧ i.toNat ≤ ds.length) ∧ Q .non (S.set r (.lst (ds.take i.toNat ++ d :: ds.drop i.toNat)))) := od_ite (z := (.non, S.set r (.lst (ds.take i.toNat ++ d :: ds.drop i.toNat)))) (by
  rw [op_insert]; simp [oInsert, h])
theorem sp_lCyes {T : Cms} {rk q rh rm rf : Nat} {mm mf : List Rw} {hs : List Hd} {k : K2} {nm : Nm} {p : Int} {P : Nat → Prop} {v0 e1 e2 e4 e7 e8 e9 e11 e14 e17 e18 : Option D}
    (hm : Rows S rm mm) (ok : Ok mm) (hrow : S[q]? = some (.lst (((cont mm k).getD []).map .str))) (hin : nm ∈ (cont mm k).getD []) (hp : 0 ≤ p) (hk : S[rk]? = some (.lst [])) (hH : Held S rh hs) (hHn : HIn (fun q => q ≠ rh) hs) (hl : hs.length ≤ 1000)
    (hf : Rows S rf mf) (hfn : RIn (fun q => q ≠ rh) rf mf) (hc : ∀ k', cont mf k' = if k' = k then some (ins ((cont mm k).getD []) nm p) else cont mm k')
    (hT : ∀ S' rd md e16 e17, Keep (fun q => q ≠ rh) S S' → Held S' rh (hs ++ [⟨rf, mf, rd, md⟩]) → Rows S' rd md → Ok md → RIn (fun q => S.length ≤ q) rd md → wpCs TT (wpCall TT FT (n + 3)) none T [v0, e1, e2, some (.ref rd), e4, some (.ref q), some (.ref rh), e7, e8, e9, some (kd k), e11, some (.str nm), some (.int p), e14, some (.ref rf), e16, e17, e18] S' K EX) :
    wpCs TT (wpCall TT FT (n + 3)) none (lC T) [v0, e1, e2, some (.ref rm), e4, some (.ref q), some (.ref rh), e7, e8, e9, some (kd k), e11, some (.str nm), some (.int p), e14, some (.ref rf), some (.ref rk), e17, e18] S K EX := by
  unfold lC
  obtain ⟨row, hcr⟩ : ∃ row, cont mm k = some row := by
    cases e : cont mm k with
    | none => rw [e] at hin; exact absurd hin (by simp)
    | some l => exact ⟨l, rfl⟩
  rw [hcr] at hrow hin
  simp only [Option.getD_some] at hrow hin
  have hc' : ∀ k', cont mf k' = if k' = k then some (ins row nm p) else cont mm k' := fun k' => by rw [hc k', hcr]; rfl
  have i1 : ∀ Q, opD TT .nin [.str nm, .ref q] S Q = Q (.bl (!decide (nm ∈ row))) S := fun Q => od_ninL hrow (in_str _ _)
  simp only [wpCs, wpC, wpT, wpE, wpEs, wpI, asg1, List.getElem?_cons_zero, List.getElem?_cons_succ, List.set_cons_zero, List.set_cons_succ, od_addI, od_addS, od_sub, od_mulI, od_div, od_mod, od_neg, od_not, od_eqI, od_neI, od_ltI, od_le, od_gt, od_ge, od_isN, od_notN, od_inS, od_ninS, od_tup, od_lst, od_dnT, od_lenS, od_lenT, od_lenQ, od_ixT, od_ixQ, od_min, od_int1, od_intB, od_listT, od_tupT, od_cutHQ, List.length_cons, List.length_nil, if_true, true_and, and_true, Bool.not_true, Bool.not_false, Bool.false_eq_true, if_false, ite_true, ite_false, decide_true, decide_false, reduceIte, Option.some.injEq, exists_eq_left', Int.reduceLT, Int.reduceLE, Int.reduceToNat, and_self, true_or, or_true, i1, hin]
  refine sp_copy (n := n + 2) hm ok.bd (by omega) (by omega) fun S1 rd md g1 hd cc fr bd1 => ?_
  obtain ⟨e, he, hek, hel⟩ := cont_some ((same_cnt cc k).trans hcr)
  have he1 := hd.each e he
  rw [hel] at he1
  have nd0 : row.Nodup := by
    obtain ⟨f, hf', _, fl⟩ := cont_some hcr
    rw [← fl]; exact ok.nd f hf'
  have lr : row.length ≤ 26 := by rw [← hel]; exact bd1.sm e he
  subst hek
  simp only [wpCs, wpC, wpT, wpE, wpEs, wpI, asg1, List.getElem?_cons_zero, List.getElem?_cons_succ, List.set_cons_zero, List.set_cons_succ, od_addI, od_addS, od_sub, od_mulI, od_div, od_mod, od_neg, od_not, od_eqI, od_neI, od_ltI, od_le, od_gt, od_ge, od_isN, od_notN, od_inS, od_ninS, od_tup, od_lst, od_dnT, od_lenS, od_lenT, od_lenQ, od_ixT, od_ixQ, od_min, od_int1, od_intB, od_listT, od_tupT, od_cutHQ, List.length_cons, List.length_nil, if_true, true_and, and_true, Bool.not_true, Bool.not_false, Bool.false_eq_true, if_false, ite_true, ite_false, decide_true, decide_false, reduceIte, Option.some.injEq, exists_eq_left', Int.reduceLT, Int.reduceLE, Int.reduceToNat, and_self, true_or, or_true, od_ixD hd.at_ (keyOk_kd e.1), look_mem hd.nd he, tk_remove he1, od_remove he1 hin]
  have hd2 := hd.upd fr.nd he (row.erase nm)
  have he2 : (S1.set e.2.1 (.lst ((row.erase nm).map .str)))[e.2.1]? = some (.lst ((row.erase nm).map .str)) := at_set he1
  have lk2 : look (kvs (updR md e.1 (row.erase nm))) (kd e.1) = some (.ref e.2.1) := by rw [kvs_upd]; exact look_mem hd.nd he
  have g2 : Gr S (S1.set e.2.1 (.lst ((row.erase nm).map .str))) := g1.set (fr.l e he)
  have hed : (e.1, e.2.1, row.erase nm) ∈ updR md e.1 (row.erase nm) := List.mem_map.mpr ⟨e, he, by simp⟩
  have ndr : ((updR md e.1 (row.erase nm)).map (·.2.1)).Nodup := by rw [refs_upd]; exact fr.nd
  generalize S1.set e.2.1 (.lst ((row.erase nm).map .str)) = S2 at *
  simp only [od_ixD hd2.at_ (keyOk_kd e.1), lk2, tk_insert he2, wpCs, wpC, wpT, wpE, wpEs, wpI, asg1, List.getElem?_cons_zero, List.getElem?_cons_succ, List.set_cons_zero, List.set_cons_succ, od_addI, od_addS, od_sub, od_mulI, od_div, od_mod, od_neg, od_not, od_eqI, od_neI, od_ltI, od_le, od_gt, od_ge, od_isN, od_notN, od_inS, od_ninS, od_tup, od_lst, od_dnT, od_lenS, od_lenT, od_lenQ, od_ixT, od_ixQ, od_min, od_int1, od_intB, od_listT, od_tupT, od_cutHQ, List.length_cons, List.length_nil, if_true, true_and, and_true, Bool.not_true, Bool.not_false, Bool.false_eq_true, if_false, ite_true, ite_false, decide_true, decide_false, reduceIte, Option.some.injEq, exists_eq_left', Int.reduceLT, Int.reduceLE, Int.reduceToNat, and_self, true_or, or_true, od_lenL he2, List.length_map]
  rw [od_insert he2]
  have hi0 : 0 ≤ (if ((row.erase nm).length : Int) < p then ((row.erase nm).length : Int) else p) := by split <;> omega
  have hi1 : (if ((row.erase nm).length : Int) < p then ((row.erase nm).length : Int) else p).toNat ≤ (row.erase nm).length := by split <;> omega
  have le2 : (row.erase nm).length ≤ 26 := Nat.le_trans (List.length_erase_le) lr
  refine ⟨⟨by rw [List.length_map]; show _ < 16777216; omega, hi0, by rw [List.length_map]; exact hi1⟩, ?_⟩
  have hx : ((row.erase nm).map D.str).take (if ((row.erase nm).length : Int) < p then ((row.erase nm).length : Int) else p).toNat ++ D.str nm :: ((row.erase nm).map D.str).drop (if ((row.erase nm).length : Int) < p then ((row.erase nm).length : Int) else p).toNat = (ins row nm p).map D.str := by
    unfold ins
    rw [ins_eq (p := p) nd0]
    simp
  rw [hx]
  have hd3 := hd2.upd ndr hed (ins row nm p)
  have g3 : Gr S (S2.set e.2.1 (.lst ((ins row nm p).map .str))) := g2.set (fr.l e he)
  simp only at hd3
  generalize S2.set e.2.1 (.lst ((ins row nm p).map .str)) = S3 at *
  generalize hmd : updR (updR md e.1 (row.erase nm)) e.1 (ins row nm p) = md3 at *
  have cmd : ∀ k', cont md3 k' = if k' = e.1 then some (ins row nm p) else cont mm k' := fun k' => by
    rw [← hmd, cont_upd]
    by_cases c : k' = e.1
    · rw [if_pos c, if_pos c, cont_upd, if_pos rfl, cont_mem hd.nd he]; rfl
    · rw [if_neg c, if_neg c, cont_upd, if_neg c]; exact same_cnt cc k'
  have okd : Ok md3 := by
    obtain ⟨i1, i2⟩ := ins_ok nd0 hin (p := p)
    have key : ∀ f ∈ md3, f.2.2.Nodup ∧ f.2.2.length ≤ 26 := fun f hf => by
      rw [← hmd] at hf
      rcases upd_mem hf with ⟨hf, hk⟩ | ⟨g, hg, hk, rfl⟩
      · rcases upd_mem hf with ⟨hf, hk⟩ | ⟨g, hg, hk2, rfl⟩
        · have : (f.1, f.2.2) ∈ cnt mm := by rw [← cc]; exact List.mem_map.mpr ⟨f, hf, rfl⟩
          obtain ⟨f', hf', e'⟩ := List.mem_map.mp this
          simp only [Prod.mk.injEq] at e'
          rw [← e'.2]
          exact ⟨ok.nd f' hf', ok.bd.sm f' hf'⟩
        · exact absurd rfl hk
      · exact ⟨i1, by show (ins row nm p).length ≤ 26; omega⟩
    refine ⟨⟨?_, fun f hf => (key f hf).2⟩, fun f hf => (key f hf).1⟩
    rw [← hmd]
    unfold updR
    rw [List.length_map, List.length_map]; exact bd1.len
  have rin : RIn (fun q => S.length ≤ q) rd md3 := by
    refine ⟨fr.d, fun f hf => ?_⟩
    have : f.2.1 ∈ md3.map (·.2.1) := List.mem_map.mpr ⟨f, hf, rfl⟩
    rw [← hmd, refs_upd, refs_upd] at this
    obtain ⟨f', hf', e'⟩ := List.mem_map.mp this
    try simp only at e'
    rw [← e']; exact fr.l f' hf'
  try simp only [wpCs, wpC, wpT, wpE, wpEs, wpI, asg1, List.getElem?_cons_zero, List.getElem?_cons_succ, List.set_cons_zero, List.set_cons_succ, od_addI, od_addS, od_sub, od_mulI, od_div, od_mod, od_neg, od_not, od_eqI, od_neI, od_ltI, od_le, od_gt, od_ge, od_isN, od_notN, od_inS, od_ninS, od_tup, od_lst, od_dnT, od_lenS, od_lenT, od_lenQ, od_ixT, od_ixQ, od_min, od_int1, od_intB, od_listT, od_tupT, od_cutHQ, List.length_cons, List.length_nil, if_true, true_and, and_true, Bool.not_true, Bool.not_false, Bool.false_eq_true, if_false, ite_true, ite_false, decide_true, decide_false, reduceIte, Option.some.injEq, exists_eq_left', Int.reduceLT, Int.reduceLE, Int.reduceToNat, and_self, true_or, or_true]
  refine ⟨by decide, ?_⟩
  have g4 : Gr S (S3 ++ [Ob.lst []]) := g3.trans (Gr.push _ _)
  have hd4 := hd3.gr (Gr.push S3 [Ob.lst []])
  rw [od_ne]
  refine ⟨_, eq_strs (ss := []) (t := []) (g4 _ _ hk) (at_push _ _), ?_⟩
  generalize S3 ++ [Ob.lst []] = S4 at *
  simp only [wpCs, wpC, wpT, wpE, wpEs, wpI, asg1, List.getElem?_cons_zero, List.getElem?_cons_succ, List.set_cons_zero, List.set_cons_succ, od_addI, od_addS, od_sub, od_mulI, od_div, od_mod, od_neg, od_not, od_eqI, od_neI, od_ltI, od_le, od_gt, od_ge, od_isN, od_notN, od_inS, od_ninS, od_tup, od_lst, od_dnT, od_lenS, od_lenT, od_lenQ, od_ixT, od_ixQ, od_min, od_int1, od_intB, od_listT, od_tupT, od_cutHQ, List.length_cons, List.length_nil, if_true, true_and, and_true, Bool.not_true, Bool.not_false, Bool.false_eq_true, if_false, ite_true, ite_false, decide_true, decide_false, reduceIte, Option.some.injEq, exists_eq_left', Int.reduceLT, Int.reduceLE, Int.reduceToNat, and_self, true_or, or_true]
  have lf := at_lt hf.at_
  have same : Same mf md3 := fun k' => by rw [hc' k', cmd k']
  have hne : rd ≠ rf := by have := rin.1; omega
  refine sp_same (n := n + 2) (hf.gr g4) hd4 hne same ?_
  have hat := g4 _ _ hH.at_
  simp only [wpCs, wpC, wpT, wpE, wpEs, wpI, asg1, List.getElem?_cons_zero, List.getElem?_cons_succ, List.set_cons_zero, List.set_cons_succ, od_addI, od_addS, od_sub, od_mulI, od_div, od_mod, od_neg, od_not, od_eqI, od_neI, od_ltI, od_le, od_gt, od_ge, od_isN, od_notN, od_inS, od_ninS, od_tup, od_lst, od_dnT, od_lenS, od_lenT, od_lenQ, od_ixT, od_ixQ, od_min, od_int1, od_intB, od_listT, od_tupT, od_cutHQ, List.length_cons, List.length_nil, if_true, true_and, and_true, Bool.not_true, Bool.not_false, Bool.false_eq_true, if_false, ite_true, ite_false, decide_true, decide_false, reduceIte, Option.some.injEq, exists_eq_left', Int.reduceLT, Int.reduceLE, Int.reduceToNat, and_self, true_or, or_true, tk_append hat]
  refine ⟨by decide, ?_⟩
  rw [od_append hat]
  refine ⟨by rw [List.length_map]; show _ < 16777216; omega, ?_⟩
  have lrh := at_lt hH.at_
  have kp : ∀ q ob, q ≠ rh → S4[q]? = some ob → (S4.set rh (.lst (hs.map Hd.it ++ [.tup [.ref rf, .ref rd]])))[q]? = some ob := fun q ob hn e => by rw [List.getElem?_set_ne (Ne.symm hn)]; exact e
  have kp0 : Keep (fun q => q ≠ rh) S (S4.set rh (.lst (hs.map Hd.it ++ [.tup [.ref rf, .ref rd]]))) := fun q ob hn e => kp q ob hn (g4 _ _ e)
  have rdn : RIn (fun q => q ≠ rh) rd md3 := rin.imp fun q hq => by omega
  have hd5 := hd4.kp rdn kp
  refine hT _ rd md3 _ _ kp0 ⟨?_, fun h hh => ?_⟩ hd5 okd rin
  · rw [at_set hat]; simp; rfl
  · rcases List.mem_append.mp hh with hh | hh
    · obtain ⟨r1, r2, r3⟩ := hH.each h hh
      exact ⟨r1.kp (hHn h hh).1 kp0, r2.kp (hHn h hh).2 kp0, r3⟩
    · rw [List.mem_singleton] at hh
      subst hh
      exact ⟨hf.kp hfn kp0, hd5, same, hne⟩
theorem sp_lD {T : Cms} {rhd : Nat} {mh : List Rw} {v0 e1 e2 e3 e4 e5 e6 e7 e8 e9 e10 e11 e12 e13 e15 e16 e17 e18 : Option D} (h : Rows S rhd mh) (bd : Bd mh 5 26)
    (hT : ∀ S' e18, Keep (fun q => ∀ e ∈ mh, q ≠ e.2.1) S S' → wpCs TT (wpCall TT FT (n + 3)) none T [v0, e1, e2, e3, e4, e5, e6, e7, e8, e9, e10, e11, e12, e13, some (.ref rhd), e15, e16, e17, e18] S' K EX) :
    wpCs TT (wpCall TT FT (n + 3)) none (lD T) [v0, e1, e2, e3, e4, e5, e6, e7, e8, e9, e10, e11, e12, e13, some (.ref rhd), e15, e16, e17, e18] S K EX := by
  unfold lD
  simp only [wpCs, wpC, wpT, wpE, wpEs, wpI, asg1, List.getElem?_cons_zero, List.getElem?_cons_succ, List.set_cons_zero, List.set_cons_succ, od_addI, od_addS, od_sub, od_mulI, od_div, od_mod, od_neg, od_not, od_eqI, od_neI, od_ltI, od_le, od_gt, od_ge, od_isN, od_notN, od_inS, od_ninS, od_tup, od_lst, od_dnT, od_lenS, od_lenT, od_lenQ, od_ixT, od_ixQ, od_min, od_int1, od_intB, od_listT, od_tupT, od_cutHQ, List.length_cons, List.length_nil, if_true, true_and, and_true, Bool.not_true, Bool.not_false, Bool.false_eq_true, if_false, ite_true, ite_false, decide_true, decide_false, reduceIte, Option.some.injEq, exists_eq_left', Int.reduceLT, Int.reduceLE, Int.reduceToNat, and_self, true_or, or_true, od_listD h.at_, wk_lst (at_push _ _)]
  rw [keys_kvs]
  have nl : ∀ e ∈ mh, e.2.1 ≠ rhd := fun e he z => by have := h.each e he; rw [z, h.at_] at this; cases this
  refine foN_ix (fun j ρ S' => (∀ q ob, S[q]? = some ob → (∀ e ∈ mh, q ≠ e.2.1) → S'[q]? = some ob) ∧ S'[S.length]? = some (.lst (mh.map fun e => kd e.1)) ∧ (∀ e ∈ mh, ∃ ds, S'[e.2.1]? = some (.lst ds) ∧ ds.length ≤ 1000 + j) ∧ j ≤ mh.length ∧ ∃ e18, ρ = [v0, e1, e2, e3, e4, e5, e6, e7, e8, e9, e10, e11, e12, e13, some (.ref rhd), e15, e16, e17, e18]) (fun j ρ S' hP => sq_lst hP.2.1) ?_ ?_ _ _ ⟨fun q ob e _ => Gr.push _ _ _ _ e, at_push _ _, fun e he => ⟨_, Gr.push _ _ _ _ (h.each e he), by have := bd.sm e he; simp; omega⟩, by omega, _, rfl⟩
  · rintro j x ρ S' K' hx ⟨d1, d2, d3, dj, e1, rfl⟩ hnx hrt
    rw [List.getElem?_map] at hx
    cases em : mh[j]? with
    | none => rw [em] at hx; cases hx
    | some e =>
      rw [em] at hx
      cases hx
      refine ⟨_, rfl, ?_⟩
      have he : e ∈ mh := List.mem_of_getElem? em
      have hj : j < mh.length := (List.getElem?_eq_some_iff.mp em).1
      have a1 := d1 _ _ h.at_ fun f hf z => nl f hf z.symm
      obtain ⟨ds, a2, a3⟩ := d3 e he
      have := bd.len
      simp only [wpCs, wpC, wpT, wpE, wpEs, wpI, asg1, List.getElem?_cons_zero, List.getElem?_cons_succ, List.set_cons_zero, List.set_cons_succ, od_addI, od_addS, od_sub, od_mulI, od_div, od_mod, od_neg, od_not, od_eqI, od_neI, od_ltI, od_le, od_gt, od_ge, od_isN, od_notN, od_inS, od_ninS, od_tup, od_lst, od_dnT, od_lenS, od_lenT, od_lenQ, od_ixT, od_ixQ, od_min, od_int1, od_intB, od_listT, od_tupT, od_cutHQ, List.length_cons, List.length_nil, if_true, true_and, and_true, Bool.not_true, Bool.not_false, Bool.false_eq_true, if_false, ite_true, ite_false, decide_true, decide_false, reduceIte, Option.some.injEq, exists_eq_left', Int.reduceLT, Int.reduceLE, Int.reduceToNat, and_self, true_or, or_true, od_ixD a1 (keyOk_kd e.1), look_mem h.nd he, tk_append a2, od_append a2]
      refine ⟨by show _ < 16777216; omega, ?_⟩
      refine hnx _ _ ⟨fun q ob hq hn => ?_, ?_, fun f hf => ?_, hj, _, rfl⟩
      · rw [List.getElem?_set_ne (Ne.symm (hn e he))]; exact d1 q ob hq hn
      · have : e.2.1 ≠ S.length := Nat.ne_of_lt (at_lt (h.each e he))
        rw [List.getElem?_set_ne this]; exact d2
      · obtain ⟨es, f1, f2⟩ := d3 f hf
        by_cases z : e.2.1 = f.2.1
        · rw [← z]; exact ⟨_, at_set a2, by simp; omega⟩
        · exact ⟨es, by rw [List.getElem?_set_ne z]; exact f1, by omega⟩
  · rintro ρ S' ⟨d1, d2, d3, dj, e18, rfl⟩
    exact hT _ _ fun q ob hn hq => d1 q ob hq hn
theorem Rows.lt {r : Nat} {m : List Rw} (h : Rows S r m) : RIn (fun q => q < S.length) r m := ⟨at_lt h.at_, fun e he => at_lt (h.each e he)⟩
theorem Held.lt {rh : Nat} {hs : List Hd} (h : Held S rh hs) : HIn (fun q => q < S.length) hs := fun x hx => ⟨(h.each x hx).1.lt, (h.each x hx).2.1.lt⟩
theorem Held.gr {S' : Sto} {rh : Nat} {hs : List Hd} (h : Held S rh hs) (g : Gr S S') : Held S' rh hs := ⟨g _ _ h.at_, fun x hx => ⟨(h.each x hx).1.gr g, (h.each x hx).2.1.gr g, (h.each x hx).2.2⟩⟩
/-- the second loop's state -/
structure Inv (Sb : Sto) (rh : Nat) (j : Nat) (S : Sto) (rm : Nat) (mm : List Rw) (hs : List Hd) : Prop where
  k : Keep (fun q => q ≠ rh) Sb S
  h : Held S rh hs
  hn : HIn (fun q => q ≠ rh) hs
  m : Rows S rm mm
  ok : Ok mm
  mn : RIn (fun q => q ≠ rh) rm mm
  l : hs.length ≤ j
theorem law_clean (ns : List Int) (hn : ns.length ≤ 63) : wpCall TT FT 4 10 [.lis (ns.map .int)] [] (fun d _ => d = .bl true) fun _ _ => False := by
  rw [call10]
  refine ⟨rfl, ?_⟩
  rw [b_law_eq]
  simp only [wpCs, wpC, wpT, wpE, wpEs, wpI, asg1, List.getElem?_cons_zero, List.getElem?_cons_succ, List.set_cons_zero, List.set_cons_succ, od_addI, od_addS, od_sub, od_mulI, od_div, od_mod, od_neg, od_not, od_eqI, od_neI, od_ltI, od_le, od_gt, od_ge, od_isN, od_notN, od_inS, od_ninS, od_tup, od_lst, od_dnT, od_lenS, od_lenT, od_lenQ, od_ixT, od_ixQ, od_min, od_int1, od_intB, od_listT, od_tupT, od_cutHQ, List.length_cons, List.length_nil, if_true, true_and, and_true, Bool.not_true, Bool.not_false, Bool.false_eq_true, if_false, ite_true, ite_false, decide_true, decide_false, reduceIte, Option.some.injEq, exists_eq_left', Int.reduceLT, Int.reduceLE, Int.reduceToNat, and_self, true_or, or_true]
  refine sp_shelves (n := 1) fun S1 rsh ks g1 h1 l1 => ?_
  try simp only [wpCs, wpC, wpT, wpE, wpEs, wpI, asg1, List.getElem?_cons_zero, List.getElem?_cons_succ, List.set_cons_zero, List.set_cons_succ, od_addI, od_addS, od_sub, od_mulI, od_div, od_mod, od_neg, od_not, od_eqI, od_neI, od_ltI, od_le, od_gt, od_ge, od_isN, od_notN, od_inS, od_ninS, od_tup, od_lst, od_dnT, od_lenS, od_lenT, od_lenQ, od_ixT, od_ixQ, od_min, od_int1, od_intB, od_listT, od_tupT, od_cutHQ, List.length_cons, List.length_nil, if_true, true_and, and_true, Bool.not_true, Bool.not_false, Bool.false_eq_true, if_false, ite_true, ite_false, decide_true, decide_false, reduceIte, Option.some.injEq, exists_eq_left', Int.reduceLT, Int.reduceLE, Int.reduceToNat, and_self, true_or, or_true]
  refine sp_cellQ (n := 2) (by decide) fun z => ?_
  refine sp_names (n := 2) (m := 26) (by decide) fun S2 rn U g2 h2 l2 nd2 => ?_
  try simp only [wpCs, wpC, wpT, wpE, wpEs, wpI, asg1, List.getElem?_cons_zero, List.getElem?_cons_succ, List.set_cons_zero, List.set_cons_succ, od_addI, od_addS, od_sub, od_mulI, od_div, od_mod, od_neg, od_not, od_eqI, od_neI, od_ltI, od_le, od_gt, od_ge, od_isN, od_notN, od_inS, od_ninS, od_tup, od_lst, od_dnT, od_lenS, od_lenT, od_lenQ, od_ixT, od_ixQ, od_min, od_int1, od_intB, od_listT, od_tupT, od_cutHQ, List.length_cons, List.length_nil, if_true, true_and, and_true, Bool.not_true, Bool.not_false, Bool.false_eq_true, if_false, ite_true, ite_false, decide_true, decide_false, reduceIte, Option.some.injEq, exists_eq_left', Int.reduceLT, Int.reduceLE, Int.reduceToNat, and_self, true_or, or_true]
  have h12 := g2 _ _ h1
  have nd2' := nd2 (by decide)
  refine ⟨by decide, by decide, ?_⟩
  refine foN_ix (fun j ρ S => Gr S2 S ∧ j ≤ 4 ∧ ∃ (m : List Rw) (e4 e5 : Option D), Rows S S2.length m ∧ m.length ≤ j ∧ (∀ e ∈ m, e.2.2.length ≤ 26 ∧ e.2.2.Nodup) ∧ ρ = [some (.lis (ns.map .int)), some (.ref rsh), some (.ref rn), some (.ref S2.length), e4, e5, none, none, none, none, none, none, none, none, none, none, none, none, none]) (fun _ _ _ _ => trivial) ?_ ?_ _ _ ⟨Gr.push _ _, by omega, [], _, _, ⟨at_push _ _, by simp, by simp⟩, by simp, by simp, rfl⟩
  · rintro j x ρ S K' hx ⟨g, hj4, m, e4, e5, hR, hlm, hsm, rfl⟩ hnx hrt
    obtain ⟨hj, rfl⟩ := rng_get hx
    have hj' : j < 4 := hj
    refine ⟨_, rfl, ?_⟩
    simp only [wpCs, wpC, wpT, wpE, wpEs, wpI, asg1, List.getElem?_cons_zero, List.getElem?_cons_succ, List.set_cons_zero, List.set_cons_succ, od_addI, od_addS, od_sub, od_mulI, od_div, od_mod, od_neg, od_not, od_eqI, od_neI, od_ltI, od_le, od_gt, od_ge, od_isN, od_notN, od_inS, od_ninS, od_tup, od_lst, od_dnT, od_lenS, od_lenT, od_lenQ, od_ixT, od_ixQ, od_min, od_int1, od_intB, od_listT, od_tupT, od_cutHQ, List.length_cons, List.length_nil, if_true, true_and, and_true, Bool.not_true, Bool.not_false, Bool.false_eq_true, if_false, ite_true, ite_false, decide_true, decide_false, reduceIte, Option.some.injEq, exists_eq_left', Int.reduceLT, Int.reduceLE, Int.reduceToNat, and_self, true_or, or_true]
    refine sp_cellQ (n := 2) (by omega) fun z => ?_
    try simp only [wpCs, wpC, wpT, wpE, wpEs, wpI, asg1, List.getElem?_cons_zero, List.getElem?_cons_succ, List.set_cons_zero, List.set_cons_succ, od_addI, od_addS, od_sub, od_mulI, od_div, od_mod, od_neg, od_not, od_eqI, od_neI, od_ltI, od_le, od_gt, od_ge, od_isN, od_notN, od_inS, od_ninS, od_tup, od_lst, od_dnT, od_lenS, od_lenT, od_lenQ, od_ixT, od_ixQ, od_min, od_int1, od_intB, od_listT, od_tupT, od_cutHQ, List.length_cons, List.length_nil, if_true, true_and, and_true, Bool.not_true, Bool.not_false, Bool.false_eq_true, if_false, ite_true, ite_false, decide_true, decide_false, reduceIte, Option.some.injEq, exists_eq_left', Int.reduceLT, Int.reduceLE, Int.reduceToNat, and_self, true_or, or_true]
    refine sp_row (n := 2) l2 nd2' (g _ _ h2) fun S5 rr row g5 hrr h5 hl5 hs5 => ?_
    try simp only [wpCs, wpC, wpT, wpE, wpEs, wpI, asg1, List.getElem?_cons_zero, List.getElem?_cons_succ, List.set_cons_zero, List.set_cons_succ, od_addI, od_addS, od_sub, od_mulI, od_div, od_mod, od_neg, od_not, od_eqI, od_neI, od_ltI, od_le, od_gt, od_ge, od_isN, od_notN, od_inS, od_ninS, od_tup, od_lst, od_dnT, od_lenS, od_lenT, od_lenQ, od_ixT, od_ixQ, od_min, od_int1, od_intB, od_listT, od_tupT, od_cutHQ, List.length_cons, List.length_nil, if_true, true_and, and_true, Bool.not_true, Bool.not_false, Bool.false_eq_true, if_false, ite_true, ite_false, decide_true, decide_false, reduceIte, Option.some.injEq, exists_eq_left', Int.reduceLT, Int.reduceLE, Int.reduceToNat, and_self, true_or, or_true]
    refine ⟨by decide, ?_⟩
    have h5' := (Gr.push S5 [Ob.lst []]) _ _ h5
    rw [od_ne]
    refine ⟨_, eq_strs (t := []) h5' (at_push _ _), ?_⟩
    have g6 := (g.trans g5).trans (Gr.push S5 [Ob.lst []])
    have hR6 := (hR.gr g5).gr (Gr.push S5 [Ob.lst []])
    by_cases he : row = []
    · simp only [he, decide_true, wpCs, wpC, wpT, wpE, wpEs, wpI, asg1, List.getElem?_cons_zero, List.getElem?_cons_succ, List.set_cons_zero, List.set_cons_succ, od_addI, od_addS, od_sub, od_mulI, od_div, od_mod, od_neg, od_not, od_eqI, od_neI, od_ltI, od_le, od_gt, od_ge, od_isN, od_notN, od_inS, od_ninS, od_tup, od_lst, od_dnT, od_lenS, od_lenT, od_lenQ, od_ixT, od_ixQ, od_min, od_int1, od_intB, od_listT, od_tupT, od_cutHQ, List.length_cons, List.length_nil, if_true, true_and, and_true, Bool.not_true, Bool.not_false, Bool.false_eq_true, if_false, ite_true, ite_false, decide_true, decide_false, reduceIte, Option.some.injEq, exists_eq_left', Int.reduceLT, Int.reduceLE, Int.reduceToNat, and_self, true_or, or_true]
      exact hnx _ _ ⟨g6, by omega, m, _, _, hR6, by omega, hsm, rfl⟩
    · have a1 : L2.atI (ks.map kd) (0 + (j : Int) * 1) = some (kd (ks[j]'(by omega))) := by
        have e : (0 + (j : Int) * 1) = ((j : Nat) : Int) := by omega
        rw [e]; exact atI_k (by rw [List.getElem?_map, List.getElem?_eq_getElem (by omega)]; rfl)
      simp only [he, decide_false, wpCs, wpC, wpT, wpE, wpEs, wpI, asg1, List.getElem?_cons_zero, List.getElem?_cons_succ, List.set_cons_zero, List.set_cons_succ, od_addI, od_addS, od_sub, od_mulI, od_div, od_mod, od_neg, od_not, od_eqI, od_neI, od_ltI, od_le, od_gt, od_ge, od_isN, od_notN, od_inS, od_ninS, od_tup, od_lst, od_dnT, od_lenS, od_lenT, od_lenQ, od_ixT, od_ixQ, od_min, od_int1, od_intB, od_listT, od_tupT, od_cutHQ, List.length_cons, List.length_nil, if_true, true_and, and_true, Bool.not_true, Bool.not_false, Bool.false_eq_true, if_false, ite_true, ite_false, decide_true, decide_false, reduceIte, Option.some.injEq, exists_eq_left', Int.reduceLT, Int.reduceLE, Int.reduceToNat, and_self, true_or, or_true, od_ixL (g6 _ _ h12), a1]
      generalize ks[j]'(by omega) = k
      rw [setW_dic hR6.at_, put_kvsR m k rr row]
      refine ⟨keyOk_kd _, by show (kvs m).length < 16777216; simp only [kvs, List.length_map]; omega, ?_⟩
      refine hnx _ _ ⟨g6.set (Nat.le_refl _), by omega, putR m k rr row, _, _, Rows.put k hR6 h5', by have := len_putR m k rr row; omega, fun e he' => ?_, rfl⟩
      rcases mem_putR he' with he' | ⟨a, b⟩
      · exact hsm e he'
      · rw [b]; exact ⟨hl5, hs5⟩
  · rintro ρ S ⟨g, hj6, m, e4, e5, hR, hlm, hsm, rfl⟩
    have hlm' : m.length ≤ 4 := hlm
    simp only [wpCs, wpC, wpT, wpE, wpEs, wpI, asg1, List.getElem?_cons_zero, List.getElem?_cons_succ, List.set_cons_zero, List.set_cons_succ, od_addI, od_addS, od_sub, od_mulI, od_div, od_mod, od_neg, od_not, od_eqI, od_neI, od_ltI, od_le, od_gt, od_ge, od_isN, od_notN, od_inS, od_ninS, od_tup, od_lst, od_dnT, od_lenS, od_lenT, od_lenQ, od_ixT, od_ixQ, od_min, od_int1, od_intB, od_listT, od_tupT, od_cutHQ, List.length_cons, List.length_nil, if_true, true_and, and_true, Bool.not_true, Bool.not_false, Bool.false_eq_true, if_false, ite_true, ite_false, decide_true, decide_false, reduceIte, Option.some.injEq, exists_eq_left', Int.reduceLT, Int.reduceLE, Int.reduceToNat, and_self, true_or, or_true, od_cutBQ]
    refine ⟨by decide, ?_⟩
    obtain ⟨cs, ecs, lcs⟩ : ∃ cs : List Int, (((ns.map D.int).drop (clip 7 (ns.map D.int).length)).take (clip 63 (ns.map D.int).length - clip 7 (ns.map D.int).length)) = cs.map .int ∧ cs.length ≤ 63 := by
      refine ⟨(ns.drop (clip 7 (ns.map D.int).length)).take (clip 63 (ns.map D.int).length - clip 7 (ns.map D.int).length), ?_, ?_⟩
      · rw [List.map_take, List.map_drop]
      · have : ∀ a b : Nat, ((ns.drop a).take b).length ≤ 63 := fun a b => by simp; omega
        exact this _ _
    rw [ecs]
    have gA := Gr.push S [Ob.lst []]
    have hA := at_push S (Ob.lst [])
    have lA' : (S ++ [Ob.lst []]).length = S.length + 1 := by simp
    generalize S ++ [Ob.lst []] = SA at *
    have hC := at_push SA (Ob.lst (cs.map D.int))
    have gC := Gr.push SA [Ob.lst (cs.map D.int)]
    simp only [od_lenL hC, List.length_map, wpCs, wpC, wpT, wpE, wpEs, wpI, asg1, List.getElem?_cons_zero, List.getElem?_cons_succ, List.set_cons_zero, List.set_cons_succ, od_addI, od_addS, od_sub, od_mulI, od_div, od_mod, od_neg, od_not, od_eqI, od_neI, od_ltI, od_le, od_gt, od_ge, od_isN, od_notN, od_inS, od_ninS, od_tup, od_lst, od_dnT, od_lenS, od_lenT, od_lenQ, od_ixT, od_ixQ, od_min, od_int1, od_intB, od_listT, od_tupT, od_cutHQ, List.length_cons, List.length_nil, if_true, true_and, and_true, Bool.not_true, Bool.not_false, Bool.false_eq_true, if_false, ite_true, ite_false, decide_true, decide_false, reduceIte, Option.some.injEq, exists_eq_left', Int.reduceLT, Int.reduceLE, Int.reduceToNat, and_self, true_or, or_true]
    refine ⟨⟨by decide, by decide, by omega, by omega⟩, ?_⟩
    have hAC := gC _ _ hA
    have gAC := gA.trans gC
    have hne : SA.length ≠ S.length := by omega
    have nrh : ∀ q ob, S[q]? = some ob → q ≠ S.length := fun q ob e => by have := at_lt e; omega
    have kN := gAC _ _ (g _ _ h2)
    have kS := gAC _ _ (g _ _ h12)
    have nN := nrh _ _ (g _ _ h2)
    have nS := nrh _ _ (g _ _ h12)
    have hR' := hR.gr gAC
    have hRn : RIn (fun q => q ≠ S.length) S2.length m := hR.lt.imp fun q hq => by omega
    generalize SA ++ [Ob.lst (cs.map D.int)] = Sb at *
    refine foN_ix (fun j ρ S' => ∃ rm mm hs e4 e5 e8 e9 e10 e11 e12 e13 e14 e15 e16 e17 e18, Inv Sb S.length j S' rm mm hs ∧ ρ = [some (.lis (ns.map .int)), some (.ref rsh), some (.ref rn), some (.ref rm), e4, e5, some (.ref S.length), some (.ref SA.length), e8, e9, e10, e11, e12, e13, e14, e15, e16, e17, e18]) (fun _ _ _ _ => trivial) ?_ ?_ _ _ ⟨S2.length, m, [], _, _, _, _, _, _, _, _, _, _, _, _, _, ⟨fun q ob _ e => e, ⟨hAC, by simp⟩, fun h hh => by simp at hh, hR', ⟨⟨by omega, fun e he => (hsm e he).1⟩, fun e he => (hsm e he).2⟩, hRn, by simp⟩, rfl⟩
    · rintro j x ρ S' K' hx ⟨rm, mm, hs, e4, e5, e8, e9, e10, e11, e12, e13, e14, e15, e16, e17, e18, iv, rfl⟩ hnx hrt
      obtain ⟨hj, rfl⟩ := rng_get hx
      have hj3 : 3 * j < cs.length := by unfold rngN at hj; omega
      refine ⟨_, rfl, ?_⟩
      simp only [List.set_cons_zero, List.set_cons_succ]
      refine sp_lA (n := 0) (iv.k _ _ nS kS) l1 (iv.k _ _ nN kN) l2 iv.m (iv.k _ _ hne hC) (by omega) (by omega) fun S3 q k nm p e9 e11 g3 hrow hp => ?_
      refine sp_lB (n := 0) (iv.m.gr g3) iv.ok hrow hp (fun hin S4 rhd mh rk b g4 hh fr bd lb bl hk => ?_) fun hin S4 rhd mh rk b rf mf g4 hh fr bd lb b0 bl hk hf ff hc => ?_
      · refine sp_lCno (n := 0) (g4 _ _ hrow) hin hk fun S5 g5 => ?_
        refine sp_lD (n := 0) (hh.gr g5) bd fun S6 e18 k6 => ?_
        simp only [wpCs]
        have g35 := (g3.trans g4).trans g5
        have old : ∀ q, q < S'.length → ∀ e ∈ mh, q ≠ e.2.1 := fun q hq e he => by have := fr.l e he; have := g3.len; omega
        refine hnx _ _ ⟨rm, mm, hs, _, _, _, _, _, _, _, _, _, _, _, _, _, ⟨fun q ob hq e => ?_, (iv.h.gr g35).kp (old _ (at_lt iv.h.at_)) (iv.h.lt.imp old) k6, iv.hn, (iv.m.gr g35).kp (iv.m.lt.imp old) k6, iv.ok, iv.mn, by have := iv.l; omega⟩, rfl⟩
        have e' := iv.k q ob hq e
        exact k6 _ _ (old _ (at_lt e')) (g35 _ _ e')
      · have g34 := g3.trans g4
        have lrh := at_lt iv.h.at_
        have l3 := g3.len
        have l4 := g4.len
        refine sp_lCyes (n := 0) (P := fun _ => True) (iv.m.gr g34) iv.ok (g4 _ _ hrow) hin hp hk (iv.h.gr g34) iv.hn (by have := iv.l; omega) hf ⟨by have := ff.d; omega, fun e he => by have := ff.l e he; omega⟩ hc fun S5 rd md e16 e17 k5 hH hd okd rin => ?_
        have hh5 := hh.kp (P := fun q => q ≠ S.length) ⟨by have := fr.d; omega, fun e he => by have := fr.l e he; omega⟩ k5
        refine sp_lD (n := 0) hh5 bd fun S6 e18 k6 => ?_
        simp only [wpCs]
        have old : ∀ q, q < S'.length → ∀ e ∈ mh, q ≠ e.2.1 := fun q hq e he => by have := fr.l e he; omega
        have new : ∀ q, b ≤ q → ∀ e ∈ mh, q ≠ e.2.1 := fun q hq e he => by have := lb e he; omega
        have rin' : RIn (fun q => ∀ e ∈ mh, q ≠ e.2.1) rd md := rin.imp fun q hq => new q (by omega)
        have fin' : RIn (fun q => ∀ e ∈ mh, q ≠ e.2.1) rf mf := ⟨new _ ff.d, fun e he => new _ (ff.l e he)⟩
        refine hnx _ _ ⟨rd, md, hs ++ [⟨rf, mf, rd, md⟩], _, _, _, _, _, _, _, _, _, _, _, _, _, ⟨fun q ob hq e => ?_, hH.kp (old _ lrh) (fun h hm => ?_) k6, fun h hm => ?_, hd.kp rin' k6, okd, rin.imp fun q hq => by omega, by have := iv.l; simp; omega⟩, rfl⟩
        · have e' := iv.k q ob hq e
          exact k6 _ _ (old _ (at_lt e')) (k5 _ _ hq (g34 _ _ e'))
        · rcases List.mem_append.mp hm with hm | hm
          · exact iv.h.lt.imp old h hm
          · rw [List.mem_singleton] at hm
            subst hm
            exact ⟨fin', rin'⟩
        · rcases List.mem_append.mp hm with hm | hm
          · exact iv.hn h hm
          · rw [List.mem_singleton] at hm
            subst hm
            exact ⟨⟨by have := ff.d; show rf ≠ S.length; omega, fun e he => by have := ff.l e he; omega⟩, rin.imp fun q hq => by omega⟩
    · rintro ρ S' ⟨rm, mm, hs, e4, e5, e8, e9, e10, e11, e12, e13, e14, e15, e16, e17, e18, iv, rfl⟩
      simp only [wpCs, wpC, wpT, wpE, wpEs, wpI, asg1, List.getElem?_cons_zero, List.getElem?_cons_succ, List.set_cons_zero, List.set_cons_succ, od_addI, od_addS, od_sub, od_mulI, od_div, od_mod, od_neg, od_not, od_eqI, od_neI, od_ltI, od_le, od_gt, od_ge, od_isN, od_notN, od_inS, od_ninS, od_tup, od_lst, od_dnT, od_lenS, od_lenT, od_lenQ, od_ixT, od_ixQ, od_min, od_int1, od_intB, od_listT, od_tupT, od_cutHQ, List.length_cons, List.length_nil, if_true, true_and, and_true, Bool.not_true, Bool.not_false, Bool.false_eq_true, if_false, ite_true, ite_false, decide_true, decide_false, reduceIte, Option.some.injEq, exists_eq_left', Int.reduceLT, Int.reduceLE, Int.reduceToNat, and_self, true_or, or_true, wk_lst iv.h.at_]
      refine foN_ix (fun j ρ S'' => S'' = S' ∧ ∃ e15 e17, ρ = [some (.lis (ns.map .int)), some (.ref rsh), some (.ref rn), some (.ref rm), e4, e5, some (.ref S.length), some (.ref SA.length), e8, e9, e10, e11, e12, e13, e14, e15, e16, e17, e18]) (fun j ρ S'' hP => by rw [hP.1]; exact sq_lst iv.h.at_) ?_ ?_ _ _ ⟨rfl, _, _, rfl⟩
      · rintro j x ρ S'' K' hx ⟨rfl, e15, e17, rfl⟩ hnx hrt
        rw [List.getElem?_map] at hx
        cases em : hs[j]? with
        | none => rw [em] at hx; cases hx
        | some h =>
          rw [em] at hx
          cases hx
          obtain ⟨r1, r2, r3, r4⟩ := iv.h.each h (List.mem_of_getElem? em)
          refine ⟨_, rfl, ?_⟩
          simp only [wpCs, wpC, wpT, wpE, wpEs, wpI, asg1, List.getElem?_cons_zero, List.getElem?_cons_succ, List.set_cons_zero, List.set_cons_succ, od_addI, od_addS, od_sub, od_mulI, od_div, od_mod, od_neg, od_not, od_eqI, od_neI, od_ltI, od_le, od_gt, od_ge, od_isN, od_notN, od_inS, od_ninS, od_tup, od_lst, od_dnT, od_lenS, od_lenT, od_lenQ, od_ixT, od_ixQ, od_min, od_int1, od_intB, od_listT, od_tupT, od_cutHQ, List.length_cons, List.length_nil, if_true, true_and, and_true, Bool.not_true, Bool.not_false, Bool.false_eq_true, if_false, ite_true, ite_false, decide_true, decide_false, reduceIte, Option.some.injEq, exists_eq_left', Int.reduceLT, Int.reduceLE, Int.reduceToNat, and_self, true_or, or_true]
          refine sp_same (n := 2) r1 r2 r4 r3 ?_
          simp only [wpCs, wpC, wpT, wpE, wpEs, wpI, asg1, List.getElem?_cons_zero, List.getElem?_cons_succ, List.set_cons_zero, List.set_cons_succ, od_addI, od_addS, od_sub, od_mulI, od_div, od_mod, od_neg, od_not, od_eqI, od_neI, od_ltI, od_le, od_gt, od_ge, od_isN, od_notN, od_inS, od_ninS, od_tup, od_lst, od_dnT, od_lenS, od_lenT, od_lenQ, od_ixT, od_ixQ, od_min, od_int1, od_intB, od_listT, od_tupT, od_cutHQ, List.length_cons, List.length_nil, if_true, true_and, and_true, Bool.not_true, Bool.not_false, Bool.false_eq_true, if_false, ite_true, ite_false, decide_true, decide_false, reduceIte, Option.some.injEq, exists_eq_left', Int.reduceLT, Int.reduceLE, Int.reduceToNat, and_self, true_or, or_true]
          exact hnx _ _ ⟨rfl, _, _, rfl⟩
      · rintro ρ S'' ⟨rfl, e15, e17, rfl⟩
        simp only [wpCs, wpC, wpT, wpE, wpEs, wpI, asg1, List.getElem?_cons_zero, List.getElem?_cons_succ, List.set_cons_zero, List.set_cons_succ, od_addI, od_addS, od_sub, od_mulI, od_div, od_mod, od_neg, od_not, od_eqI, od_neI, od_ltI, od_le, od_gt, od_ge, od_isN, od_notN, od_inS, od_ninS, od_tup, od_lst, od_dnT, od_lenS, od_lenT, od_lenQ, od_ixT, od_ixQ, od_min, od_int1, od_intB, od_listT, od_tupT, od_cutHQ, List.length_cons, List.length_nil, if_true, true_and, and_true, Bool.not_true, Bool.not_false, Bool.false_eq_true, if_false, ite_true, ite_false, decide_true, decide_false, reduceIte, Option.some.injEq, exists_eq_left', Int.reduceLT, Int.reduceLE, Int.reduceToNat, and_self, true_or, or_true]
end Lk12
namespace Lk12
open PySem PySem.Spec PyProof.Rows L2 Mp
abbrev PP : Program := PySem.Challenge.pw_dealknot_k12_put_to_a_place
def top (i : Nat) : Stmt := PP.main.body.getD i (.Pass ⟨0, 0, 0, 0⟩)
structure CAd where
  c_HallError : Addr
  c_NoName : Addr
  c_NoAmount : Addr
  c_NoLeg : Addr
  c_NotWaiting : Addr
  c_Twice : Addr
  c_TooLittle : Addr
  c_NotNow : Addr
  c_NotForetold : Addr
  c_NoRow : Addr
  c_NoBack : Addr
def GG (B : CAd) : Mp.Gl := ⟨⟨fun _ => none, fun k => match k with | 4 => some B.c_NotWaiting | _ => none, fun i => ⟨#[i]⟩⟩, TT, FT, fun _ => none⟩
theorem s0_e : ("abcdefghijklmnopqrstuvwxyz" : Str).cps.toList = s0 := by decide +kernel
theorem s0_b : s0.all (· < 0x110000) = true := by decide +kernel
theorem s1_e : ("spoilt" : Str).cps.toList = s1 := by decide +kernel
theorem s1_b : s1.all (· < 0x110000) = true := by decide +kernel
theorem nd_HallError : (("HallError" : Str) == ("__debug__" : Str)) = false := by decide +kernel
theorem nc_HallError : (("HallError" : Str) == ("__classdict__" : Str)) = false := by decide +kernel
theorem nd_NoAmount : (("NoAmount" : Str) == ("__debug__" : Str)) = false := by decide +kernel
theorem nc_NoAmount : (("NoAmount" : Str) == ("__classdict__" : Str)) = false := by decide +kernel
theorem nd_NoBack : (("NoBack" : Str) == ("__debug__" : Str)) = false := by decide +kernel
theorem nc_NoBack : (("NoBack" : Str) == ("__classdict__" : Str)) = false := by decide +kernel
theorem nd_NoLeg : (("NoLeg" : Str) == ("__debug__" : Str)) = false := by decide +kernel
theorem nc_NoLeg : (("NoLeg" : Str) == ("__classdict__" : Str)) = false := by decide +kernel
theorem nd_NoName : (("NoName" : Str) == ("__debug__" : Str)) = false := by decide +kernel
theorem nc_NoName : (("NoName" : Str) == ("__classdict__" : Str)) = false := by decide +kernel
theorem nd_NoRow : (("NoRow" : Str) == ("__debug__" : Str)) = false := by decide +kernel
theorem nc_NoRow : (("NoRow" : Str) == ("__classdict__" : Str)) = false := by decide +kernel
theorem nd_NotForetold : (("NotForetold" : Str) == ("__debug__" : Str)) = false := by decide +kernel
theorem nc_NotForetold : (("NotForetold" : Str) == ("__classdict__" : Str)) = false := by decide +kernel
theorem nd_NotNow : (("NotNow" : Str) == ("__debug__" : Str)) = false := by decide +kernel
theorem nc_NotNow : (("NotNow" : Str) == ("__classdict__" : Str)) = false := by decide +kernel
theorem nd_NotWaiting : (("NotWaiting" : Str) == ("__debug__" : Str)) = false := by decide +kernel
theorem nc_NotWaiting : (("NotWaiting" : Str) == ("__classdict__" : Str)) = false := by decide +kernel
theorem nd_TooLittle : (("TooLittle" : Str) == ("__debug__" : Str)) = false := by decide +kernel
theorem nc_TooLittle : (("TooLittle" : Str) == ("__classdict__" : Str)) = false := by decide +kernel
theorem nd_Twice : (("Twice" : Str) == ("__debug__" : Str)) = false := by decide +kernel
theorem nc_Twice : (("Twice" : Str) == ("__classdict__" : Str)) = false := by decide +kernel
theorem nd_ValueError : (("ValueError" : Str) == ("__debug__" : Str)) = false := by decide +kernel
theorem nc_ValueError : (("ValueError" : Str) == ("__classdict__" : Str)) = false := by decide +kernel
theorem nd_begin : (("begin" : Str) == ("__debug__" : Str)) = false := by decide +kernel
theorem nc_begin : (("begin" : Str) == ("__classdict__" : Str)) = false := by decide +kernel
theorem nd_cell : (("cell" : Str) == ("__debug__" : Str)) = false := by decide +kernel
theorem nc_cell : (("cell" : Str) == ("__classdict__" : Str)) = false := by decide +kernel
theorem nd_cells : (("cells" : Str) == ("__debug__" : Str)) = false := by decide +kernel
theorem nc_cells : (("cells" : Str) == ("__classdict__" : Str)) = false := by decide +kernel
theorem nd_due : (("due" : Str) == ("__debug__" : Str)) = false := by decide +kernel
theorem nc_due : (("due" : Str) == ("__classdict__" : Str)) = false := by decide +kernel
theorem nd_e : (("e" : Str) == ("__debug__" : Str)) = false := by decide +kernel
theorem nc_e : (("e" : Str) == ("__classdict__" : Str)) = false := by decide +kernel
theorem nd_filler : (("filler" : Str) == ("__debug__" : Str)) = false := by decide +kernel
theorem nc_filler : (("filler" : Str) == ("__classdict__" : Str)) = false := by decide +kernel
theorem nd_found : (("found" : Str) == ("__debug__" : Str)) = false := by decide +kernel
theorem nc_found : (("found" : Str) == ("__classdict__" : Str)) = false := by decide +kernel
theorem nd_handed : (("handed" : Str) == ("__debug__" : Str)) = false := by decide +kernel
theorem nc_handed : (("handed" : Str) == ("__classdict__" : Str)) = false := by decide +kernel
theorem nd_held : (("held" : Str) == ("__debug__" : Str)) = false := by decide +kernel
theorem nc_held : (("held" : Str) == ("__classdict__" : Str)) = false := by decide +kernel
theorem nd_houses : (("houses" : Str) == ("__debug__" : Str)) = false := by decide +kernel
theorem nc_houses : (("houses" : Str) == ("__classdict__" : Str)) = false := by decide +kernel
theorem nd_k : (("k" : Str) == ("__debug__" : Str)) = false := by decide +kernel
theorem nc_k : (("k" : Str) == ("__classdict__" : Str)) = false := by decide +kernel
theorem nd_kinds : (("kinds" : Str) == ("__debug__" : Str)) = false := by decide +kernel
theorem nc_kinds : (("kinds" : Str) == ("__classdict__" : Str)) = false := by decide +kernel
theorem nd_letters : (("letters" : Str) == ("__debug__" : Str)) = false := by decide +kernel
theorem nc_letters : (("letters" : Str) == ("__classdict__" : Str)) = false := by decide +kernel
theorem nd_many : (("many" : Str) == ("__debug__" : Str)) = false := by decide +kernel
theorem nc_many : (("many" : Str) == ("__classdict__" : Str)) = false := by decide +kernel
theorem nd_mine : (("mine" : Str) == ("__debug__" : Str)) = false := by decide +kernel
theorem nc_mine : (("mine" : Str) == ("__classdict__" : Str)) = false := by decide +kernel
theorem nd_mixed : (("mixed" : Str) == ("__debug__" : Str)) = false := by decide +kernel
theorem nc_mixed : (("mixed" : Str) == ("__classdict__" : Str)) = false := by decide +kernel
theorem nd_more : (("more" : Str) == ("__debug__" : Str)) = false := by decide +kernel
theorem nc_more : (("more" : Str) == ("__classdict__" : Str)) = false := by decide +kernel
theorem nd_name : (("name" : Str) == ("__debug__" : Str)) = false := by decide +kernel
theorem nc_name : (("name" : Str) == ("__classdict__" : Str)) = false := by decide +kernel
theorem nd_names : (("names" : Str) == ("__debug__" : Str)) = false := by decide +kernel
theorem nc_names : (("names" : Str) == ("__classdict__" : Str)) = false := by decide +kernel
theorem nd_one : (("one" : Str) == ("__debug__" : Str)) = false := by decide +kernel
theorem nc_one : (("one" : Str) == ("__classdict__" : Str)) = false := by decide +kernel
theorem nd_other : (("other" : Str) == ("__debug__" : Str)) = false := by decide +kernel
theorem nc_other : (("other" : Str) == ("__classdict__" : Str)) = false := by decide +kernel
theorem nd_others : (("others" : Str) == ("__debug__" : Str)) = false := by decide +kernel
theorem nc_others : (("others" : Str) == ("__classdict__" : Str)) = false := by decide +kernel
theorem nd_out : (("out" : Str) == ("__debug__" : Str)) = false := by decide +kernel
theorem nc_out : (("out" : Str) == ("__classdict__" : Str)) = false := by decide +kernel
theorem nd_place : (("place" : Str) == ("__debug__" : Str)) = false := by decide +kernel
theorem nc_place : (("place" : Str) == ("__classdict__" : Str)) = false := by decide +kernel
theorem nd_row : (("row" : Str) == ("__debug__" : Str)) = false := by decide +kernel
theorem nc_row : (("row" : Str) == ("__classdict__" : Str)) = false := by decide +kernel
theorem nd_rows : (("rows" : Str) == ("__debug__" : Str)) = false := by decide +kernel
theorem nc_rows : (("rows" : Str) == ("__classdict__" : Str)) = false := by decide +kernel
theorem nd_script : (("script" : Str) == ("__debug__" : Str)) = false := by decide +kernel
theorem nc_script : (("script" : Str) == ("__classdict__" : Str)) = false := by decide +kernel
theorem nd_shelf : (("shelf" : Str) == ("__debug__" : Str)) = false := by decide +kernel
theorem nc_shelf : (("shelf" : Str) == ("__classdict__" : Str)) = false := by decide +kernel
theorem nd_shelves : (("shelves" : Str) == ("__debug__" : Str)) = false := by decide +kernel
theorem nc_shelves : (("shelves" : Str) == ("__classdict__" : Str)) = false := by decide +kernel
theorem nd_sign : (("sign" : Str) == ("__debug__" : Str)) = false := by decide +kernel
theorem nc_sign : (("sign" : Str) == ("__classdict__" : Str)) = false := by decide +kernel
theorem nd_size : (("size" : Str) == ("__debug__" : Str)) = false := by decide +kernel
theorem nc_size : (("size" : Str) == ("__classdict__" : Str)) = false := by decide +kernel
theorem nd_some : (("some" : Str) == ("__debug__" : Str)) = false := by decide +kernel
theorem nc_some : (("some" : Str) == ("__classdict__" : Str)) = false := by decide +kernel
theorem nd_spot : (("spot" : Str) == ("__debug__" : Str)) = false := by decide +kernel
theorem nc_spot : (("spot" : Str) == ("__classdict__" : Str)) = false := by decide +kernel
theorem nd_step : (("step" : Str) == ("__debug__" : Str)) = false := by decide +kernel
theorem nc_step : (("step" : Str) == ("__classdict__" : Str)) = false := by decide +kernel
theorem nd_steps : (("steps" : Str) == ("__debug__" : Str)) = false := by decide +kernel
theorem nc_steps : (("steps" : Str) == ("__classdict__" : Str)) = false := by decide +kernel
theorem nd_wares : (("wares" : Str) == ("__debug__" : Str)) = false := by decide +kernel
theorem nc_wares : (("wares" : Str) == ("__classdict__" : Str)) = false := by decide +kernel
/-- what the top of the text has written -/
structure Txt (B : CAd) (K : PySem.W.Frag) (mg : Str → Option Value) : Prop where
  n_ValueError : mg "ValueError" = none
  n_dict : mg "dict" = none
  n_int : mg "int" = none
  n_isinstance : mg "isinstance" = none
  n_len : mg "len" = none
  n_list : mg "list" = none
  n_min : mg "min" = none
  n_range : mg "range" = none
  m_HallError : mg "HallError" = some (.ref B.c_HallError)
  m_NoName : mg "NoName" = some (.ref B.c_NoName)
  m_NoAmount : mg "NoAmount" = some (.ref B.c_NoAmount)
  m_NoLeg : mg "NoLeg" = some (.ref B.c_NoLeg)
  m_NotWaiting : mg "NotWaiting" = some (.ref B.c_NotWaiting)
  m_Twice : mg "Twice" = some (.ref B.c_Twice)
  m_TooLittle : mg "TooLittle" = some (.ref B.c_TooLittle)
  m_NotNow : mg "NotNow" = some (.ref B.c_NotNow)
  m_NotForetold : mg "NotForetold" = some (.ref B.c_NotForetold)
  m_NoRow : mg "NoRow" = some (.ref B.c_NoRow)
  m_NoBack : mg "NoBack" = some (.ref B.c_NoBack)
  x_NotWaiting : ExK (GG B) K mg 4 "NotWaiting"
  ec : ∀ k C0, (GG B).N.kex k = some C0 → L2.ExcC K C0
  kt_NotWaiting : ∀ k C0, (GG B).N.kex k = some C0 → PySem.W.kitOne K (.ref C0) (.ref B.c_NotWaiting) = some (excIs (GG B).T k (.own 4))
  kt_NoBack : ∀ k C0, (GG B).N.kex k = some C0 → PySem.W.kitOne K (.ref C0) (.ref B.c_NoBack) = some (excIs (GG B).T k (.own 10))
  kt_NoRow : ∀ k C0, (GG B).N.kex k = some C0 → PySem.W.kitOne K (.ref C0) (.ref B.c_NoRow) = some (excIs (GG B).T k (.own 9))
  kt_NotForetold : ∀ k C0, (GG B).N.kex k = some C0 → PySem.W.kitOne K (.ref C0) (.ref B.c_NotForetold) = some (excIs (GG B).T k (.own 8))
  kt_NotNow : ∀ k C0, (GG B).N.kex k = some C0 → PySem.W.kitOne K (.ref C0) (.ref B.c_NotNow) = some (excIs (GG B).T k (.own 7))
  kt_TooLittle : ∀ k C0, (GG B).N.kex k = some C0 → PySem.W.kitOne K (.ref C0) (.ref B.c_TooLittle) = some (excIs (GG B).T k (.own 6))
  kt_Twice : ∀ k C0, (GG B).N.kex k = some C0 → PySem.W.kitOne K (.ref C0) (.ref B.c_Twice) = some (excIs (GG B).T k (.own 5))
  kt_NoLeg : ∀ k C0, (GG B).N.kex k = some C0 → PySem.W.kitOne K (.ref C0) (.ref B.c_NoLeg) = some (excIs (GG B).T k (.own 3))
  kt_NoAmount : ∀ k C0, (GG B).N.kex k = some C0 → PySem.W.kitOne K (.ref C0) (.ref B.c_NoAmount) = some (excIs (GG B).T k (.own 2))
  kt_NoName : ∀ k C0, (GG B).N.kex k = some C0 → PySem.W.kitOne K (.ref C0) (.ref B.c_NoName) = some (excIs (GG B).T k (.own 1))
  kt_ValueError : ∀ k C0, (GG B).N.kex k = some C0 → PySem.W.kitOne K (.ref C0) (.type "ValueError") = some (excIs (GG B).T k .valErr)
  xm_HallError : ∀ k C0, (GG B).N.kex k = some C0 → PySem.W.exmOne K (.ref C0) (.ref B.c_HallError) = some ((GG B).T.sub k 0)
theorem sc_copied : FnScope ["rows", "out", "shelf"] ["rows"] (defScope (top 13)) := ⟨rfl, rfl, rfl, by decide +kernel, rfl, by decide +kernel, by decide +kernel⟩
theorem sc_put_to : FnScope ["rows", "shelf", "name", "place", "row", "others", "out", "one"] ["rows", "shelf", "name", "place"] (defScope (top 14)) := ⟨rfl, rfl, rfl, by decide +kernel, rfl, by decide +kernel, by decide +kernel⟩
theorem sc__law_cell_at : FnScope ["script", "k"] ["script", "k"] (defScope (top 16)) := ⟨rfl, rfl, rfl, by decide +kernel, rfl, by decide +kernel, by decide +kernel⟩
theorem sc__law_names : FnScope ["cell", "many", "letters", "mixed", "size", "spot", "filler", "begin", "steps", "step", "names", "k", "sign", "more"] ["cell", "many"] (defScope (top 17)) := ⟨rfl, rfl, rfl, by decide +kernel, rfl, by decide +kernel, by decide +kernel⟩
theorem sc__law_copy : FnScope ["rows", "out", "shelf"] ["rows"] (defScope (top 18)) := ⟨rfl, rfl, rfl, by decide +kernel, rfl, by decide +kernel, by decide +kernel⟩
theorem sc__law_rows_same : FnScope ["found", "due", "shelf"] ["found", "due"] (defScope (top 19)) := ⟨rfl, rfl, rfl, by decide +kernel, rfl, by decide +kernel, by decide +kernel⟩
theorem sc__law_without : FnScope ["rows", "some", "out", "shelf", "row", "name"] ["rows", "some"] (defScope (top 20)) := ⟨rfl, rfl, rfl, by decide +kernel, rfl, by decide +kernel, by decide +kernel⟩
theorem sc__law_row : FnScope ["names", "cell", "mixed", "steps", "step", "size", "k"] ["names", "cell"] (defScope (top 21)) := ⟨rfl, rfl, rfl, by decide +kernel, rfl, by decide +kernel, by decide +kernel⟩
theorem sc__law_tried : FnScope ["rows", "shelf", "name", "place", "found", "kinds", "e", "others"] ["rows", "shelf", "name", "place"] (defScope (top 22)) := ⟨rfl, rfl, rfl, by decide +kernel, rfl, by decide +kernel, by decide +kernel⟩
theorem sc__law_shelves : FnScope ["script", "houses", "wares", "k"] ["script"] (defScope (top 23)) := ⟨rfl, rfl, rfl, by decide +kernel, rfl, by decide +kernel, by decide +kernel⟩
theorem sc_law : FnScope ["script", "shelves", "names", "mine", "k", "row", "held", "cells", "spot", "cell", "shelf", "other", "name", "place", "handed", "found", "kinds", "due", "one"] ["script"] (defScope (top 24)) := ⟨rfl, rfl, rfl, by decide +kernel, rfl, by decide +kernel, by decide +kernel⟩
/-- every def, at a level -/
structure Ads where
  a_copied : Addr
  a_put_to : Addr
  a__law_cell_at : Addr
  a__law_names : Addr
  a__law_copy : Addr
  a__law_rows_same : Addr
  a__law_without : Addr
  a__law_row : Addr
  a__law_tried : Addr
  a__law_shelves : Addr
  a_law : Addr
  d_copied : FuncData
  d_put_to : FuncData
  d__law_cell_at : FuncData
  d__law_names : FuncData
  d__law_copy : FuncData
  d__law_rows_same : FuncData
  d__law_without : FuncData
  d__law_row : FuncData
  d__law_tried : FuncData
  d__law_shelves : FuncData
  d_law : FuncData
section
variable {w : World} {K : PySem.W.Frag} {mg : Str → Option Value} {base : Heap}
variable {B : CAd}
structure All (w : World) (K : PySem.W.Frag) (mg : Str → Option Value) (base : Heap) (B : CAd) (A : Ads) (n : Nat) : Prop where
  f_copied : Cal PP w K mg base (GG B) n 0 "copied" A.a_copied A.d_copied ["rows"]
  f_put_to : Cal PP w K mg base (GG B) n 1 "put_to" A.a_put_to A.d_put_to ["rows", "shelf", "name", "place"]
  f__law_cell_at : Cal PP w K mg base (GG B) n 2 "_law_cell_at" A.a__law_cell_at A.d__law_cell_at ["script", "k"]
  f__law_names : Cal PP w K mg base (GG B) n 3 "_law_names" A.a__law_names A.d__law_names ["cell", "many"]
  f__law_copy : Cal PP w K mg base (GG B) n 4 "_law_copy" A.a__law_copy A.d__law_copy ["rows"]
  f__law_rows_same : Cal PP w K mg base (GG B) n 5 "_law_rows_same" A.a__law_rows_same A.d__law_rows_same ["found", "due"]
  f__law_without : Cal PP w K mg base (GG B) n 6 "_law_without" A.a__law_without A.d__law_without ["rows", "some"]
  f__law_row : Cal PP w K mg base (GG B) n 7 "_law_row" A.a__law_row A.d__law_row ["names", "cell"]
  f__law_tried : Cal PP w K mg base (GG B) n 8 "_law_tried" A.a__law_tried A.d__law_tried ["rows", "shelf", "name", "place"]
  f__law_shelves : Cal PP w K mg base (GG B) n 9 "_law_shelves" A.a__law_shelves A.d__law_shelves ["script"]
  f_law : Cal PP w K mg base (GG B) n 10 "law" A.a_law A.d_law ["script"]
structure Funs (K : PySem.W.Frag) (mg : Str → Option Value) (A : Ads) : Prop where
  u_copied : L2.Fun K "copied" "copied" (top 13) A.a_copied A.d_copied
  g_copied : mg "copied" = some (.ref A.a_copied)
  b_copied : Binds K A.d_copied ["rows"] []
  u_put_to : L2.Fun K "put_to" "put_to" (top 14) A.a_put_to A.d_put_to
  g_put_to : mg "put_to" = some (.ref A.a_put_to)
  b_put_to : Binds K A.d_put_to ["rows", "shelf", "name", "place"] []
  u__law_cell_at : L2.Fun K "_law_cell_at" "_law_cell_at" (top 16) A.a__law_cell_at A.d__law_cell_at
  g__law_cell_at : mg "_law_cell_at" = some (.ref A.a__law_cell_at)
  b__law_cell_at : Binds K A.d__law_cell_at ["script", "k"] []
  u__law_names : L2.Fun K "_law_names" "_law_names" (top 17) A.a__law_names A.d__law_names
  g__law_names : mg "_law_names" = some (.ref A.a__law_names)
  b__law_names : Binds K A.d__law_names ["cell", "many"] []
  u__law_copy : L2.Fun K "_law_copy" "_law_copy" (top 18) A.a__law_copy A.d__law_copy
  g__law_copy : mg "_law_copy" = some (.ref A.a__law_copy)
  b__law_copy : Binds K A.d__law_copy ["rows"] []
  u__law_rows_same : L2.Fun K "_law_rows_same" "_law_rows_same" (top 19) A.a__law_rows_same A.d__law_rows_same
  g__law_rows_same : mg "_law_rows_same" = some (.ref A.a__law_rows_same)
  b__law_rows_same : Binds K A.d__law_rows_same ["found", "due"] []
  u__law_without : L2.Fun K "_law_without" "_law_without" (top 20) A.a__law_without A.d__law_without
  g__law_without : mg "_law_without" = some (.ref A.a__law_without)
  b__law_without : Binds K A.d__law_without ["rows", "some"] []
  u__law_row : L2.Fun K "_law_row" "_law_row" (top 21) A.a__law_row A.d__law_row
  g__law_row : mg "_law_row" = some (.ref A.a__law_row)
  b__law_row : Binds K A.d__law_row ["names", "cell"] []
  u__law_tried : L2.Fun K "_law_tried" "_law_tried" (top 22) A.a__law_tried A.d__law_tried
  g__law_tried : mg "_law_tried" = some (.ref A.a__law_tried)
  b__law_tried : Binds K A.d__law_tried ["rows", "shelf", "name", "place"] []
  u__law_shelves : L2.Fun K "_law_shelves" "_law_shelves" (top 23) A.a__law_shelves A.d__law_shelves
  g__law_shelves : mg "_law_shelves" = some (.ref A.a__law_shelves)
  b__law_shelves : Binds K A.d__law_shelves ["script"] []
  u_law : L2.Fun K "law" "law" (top 24) A.a_law A.d_law
  g_law : mg "law" = some (.ref A.a_law)
  b_law : Binds K A.d_law ["script"] []
theorem wk_copied {A : Ads} (t : Txt B K mg) {n : Nat} (c : All w K mg base B A n) (F : Funs K mg A) : FnOk PP w K mg base (L2.CX PP w) (2 * (n + 1)) A.a_copied A.d_copied ["rows"] (spOf (GG B) K (n + 1) 0) :=
  def_ok F.u_copied sc_copied rfl fun cdv Ar outer s H E hr => by
  have hC := wpCall_mono (GG B).T (GG B).F n
  have hu := hu_of' hr
  have hp : PassesOwn (model (cxOf (L2.CX PP w) PP w K mg base ["rows", "out", "shelf"] "copied" (defScope (top 13)) A.a_copied cdv Ar outer s H E).prog (cxOf (L2.CX PP w) PP w K mg base ["rows", "out", "shelf"] "copied" (defScope (top 13)) A.a_copied cdv Ar outer s H E).w) (cxOf (L2.CX PP w) PP w K mg base ["rows", "out", "shelf"] "copied" (defScope (top 13)) A.a_copied cdv Ar outer s H E).A (cxOf (L2.CX PP w) PP w K mg base ["rows", "out", "shelf"] "copied" (defScope (top 13)) A.a_copied cdv Ar outer s H E).env (cxOf (L2.CX PP w) PP w K mg base ["rows", "out", "shelf"] "copied" (defScope (top 13)) A.a_copied cdv Ar outer s H E).xe := passes_of rfl
  exact (css_cons (cs_asg (i := 1) hC sc_copied.nd rfl (.inl rfl) (.inl rfl) (ce_dnT hC))
    (css_cons (cs_forV (i := 2) (v := 0) hC hp rfl sc_copied.nd rfl (.inl rfl) (.inl rfl) rfl (.inl rfl) nd_rows nc_rows (css_cons (cs_setX hC hu (ce_callTy hC (call_listAll rfl) vk_listOf (.cons (ce_ix hC hu (ce_var (i := 0) rfl (.inl rfl) nd_rows nc_rows) (ce_var (i := 2) rfl (.inl rfl) nd_shelf nc_shelf) (fun _ _ => rfl)) (nostar rfl) .nil) (by rfl) t.n_list (by decide +kernel)) (ce_var (i := 1) rfl (.inl rfl) nd_out nc_out) (ce_var (i := 2) rfl (.inl rfl) nd_shelf nc_shelf))
    css_nil))
    (css_cons (cs_ret hC (ce_var (i := 1) rfl (.inl rfl) nd_out nc_out))
    css_nil)))
theorem wk_put_to {A : Ads} (t : Txt B K mg) {n : Nat} (c : All w K mg base B A n) (F : Funs K mg A) : FnOk PP w K mg base (L2.CX PP w) (2 * (n + 1)) A.a_put_to A.d_put_to ["rows", "shelf", "name", "place"] (spOf (GG B) K (n + 1) 1) :=
  def_ok F.u_put_to sc_put_to rfl fun cdv Ar outer s H E hr => by
  have hC := wpCall_mono (GG B).T (GG B).F n
  have hu := hu_of' hr
  have hp : PassesOwn (model (cxOf (L2.CX PP w) PP w K mg base ["rows", "shelf", "name", "place", "row", "others", "out", "one"] "put_to" (defScope (top 14)) A.a_put_to cdv Ar outer s H E).prog (cxOf (L2.CX PP w) PP w K mg base ["rows", "shelf", "name", "place", "row", "others", "out", "one"] "put_to" (defScope (top 14)) A.a_put_to cdv Ar outer s H E).w) (cxOf (L2.CX PP w) PP w K mg base ["rows", "shelf", "name", "place", "row", "others", "out", "one"] "put_to" (defScope (top 14)) A.a_put_to cdv Ar outer s H E).A (cxOf (L2.CX PP w) PP w K mg base ["rows", "shelf", "name", "place", "row", "others", "out", "one"] "put_to" (defScope (top 14)) A.a_put_to cdv Ar outer s H E).env (cxOf (L2.CX PP w) PP w K mg base ["rows", "shelf", "name", "place", "row", "others", "out", "one"] "put_to" (defScope (top 14)) A.a_put_to cdv Ar outer s H E).xe := passes_of rfl
  exact (css_cons (cs_asg (i := 4) hC sc_put_to.nd rfl (.inl rfl) (.inl rfl) (ce_get2 hC hu (ce_var (i := 0) rfl (.inl rfl) nd_rows nc_rows) (ce_var (i := 1) rfl (.inl rfl) nd_shelf nc_shelf) (ce_lst hC .nil) ⟨rfl, rfl, rfl, rfl⟩))
    (css_cons (cs_ite hC (ct_cmp hC (op_ninAll hu) vk_nin (ce_var (i := 2) rfl (.inr (.inl rfl)) nd_name nc_name) (ce_var (i := 4) rfl (.inl rfl) nd_row nc_row) (by rfl)) (css_cons (cs_raise rfl t.x_NotWaiting (by rfl) nd_NotWaiting)
    css_nil) css_nil)
    (css_cons (cs_asgLc hC (CompR.mk (i := 7) (mt := (some (.op .ne (.cons (.var 7) (.cons (.var 2) .nil))))) rfl sc_put_to.nd (ci_seq hC (ce_var (i := 4) rfl (.inl rfl) nd_row nc_row)) (show BlkOk ["rows", "shelf", "name", "place", "row", "others", "out", "one"] (defScope (top 14)) _ _ from ⟨rfl, by decide +kernel, by decide +kernel, by decide +kernel, by decide +kernel⟩) (fun _ _ _ _ _ => pg_name sc_put_to.nd rfl (.inl rfl)) (fun _ _ _ _ _ => pts_one (pt0 (ct_cmp hC (op_neAll hu) vk_ne (ce_var (i := 7) rfl (.inl rfl) nd_one nc_one) (ce_var (i := 2) rfl (.inr (.inl rfl)) nd_name nc_name) (by rfl)))) (fun _ _ _ _ _ => (ce_var (i := 7) rfl (.inl rfl) nd_one nc_one)) (fun _ => rfl)) rfl rfl (sw_true rfl rfl rfl (by decide +kernel)))
    (css_cons (cs_asg (i := 3) hC sc_put_to.nd rfl (.inl rfl) (.inl rfl) (ce_callB hC (call_min2 rfl) vk_min2 (.cons (ce_var (i := 3) rfl (.inl rfl) nd_place nc_place) (nostar rfl) (.cons (ce_callB hC call_lenAll vk_len (.cons (ce_var (i := 5) rfl (.inl rfl) nd_others nc_others) (nostar rfl) .nil) (by rfl) t.n_len (by decide +kernel)) (nostar rfl) .nil)) (by rfl) t.n_min (by decide +kernel)))
    (css_cons (cs_asg (i := 6) hC sc_put_to.nd rfl (.inl rfl) (.inl rfl) (ce_call (c.f_copied) hr (by rfl) (.cons (ce_var (i := 0) rfl (.inl rfl) nd_rows nc_rows) (nostar rfl) .nil)))
    (css_cons (cs_setX hC hu (ce_bin hC op_addAll vk_add (ce_bin hC op_addAll vk_add (ce_cutH hC (ce_var (i := 5) rfl (.inl rfl) nd_others nc_others) (ce_var (i := 3) rfl (.inl rfl) nd_place nc_place)) (ce_lst hC (.cons (ce_var (i := 2) rfl (.inr (.inl rfl)) nd_name nc_name) (nostar rfl) .nil))) (ce_cutL hC (ce_var (i := 5) rfl (.inl rfl) nd_others nc_others) (ce_var (i := 3) rfl (.inl rfl) nd_place nc_place))) (ce_var (i := 6) rfl (.inl rfl) nd_out nc_out) (ce_var (i := 1) rfl (.inl rfl) nd_shelf nc_shelf))
    (css_cons (cs_ret hC (ce_var (i := 6) rfl (.inl rfl) nd_out nc_out))
    css_nil)))))))
theorem wk__law_cell_at {A : Ads} (t : Txt B K mg) {n : Nat} (c : All w K mg base B A n) (F : Funs K mg A) : FnOk PP w K mg base (L2.CX PP w) (2 * (n + 1)) A.a__law_cell_at A.d__law_cell_at ["script", "k"] (spOf (GG B) K (n + 1) 2) :=
  def_ok F.u__law_cell_at sc__law_cell_at rfl fun cdv Ar outer s H E hr => by
  have hC := wpCall_mono (GG B).T (GG B).F n
  have hu := hu_of' hr
  have hp : PassesOwn (model (cxOf (L2.CX PP w) PP w K mg base ["script", "k"] "_law_cell_at" (defScope (top 16)) A.a__law_cell_at cdv Ar outer s H E).prog (cxOf (L2.CX PP w) PP w K mg base ["script", "k"] "_law_cell_at" (defScope (top 16)) A.a__law_cell_at cdv Ar outer s H E).w) (cxOf (L2.CX PP w) PP w K mg base ["script", "k"] "_law_cell_at" (defScope (top 16)) A.a__law_cell_at cdv Ar outer s H E).A (cxOf (L2.CX PP w) PP w K mg base ["script", "k"] "_law_cell_at" (defScope (top 16)) A.a__law_cell_at cdv Ar outer s H E).env (cxOf (L2.CX PP w) PP w K mg base ["script", "k"] "_law_cell_at" (defScope (top 16)) A.a__law_cell_at cdv Ar outer s H E).xe := passes_of rfl
  exact (css_cons (cs_ite hC (ct_cmp hC (op_ltAll hu) vk_lt (ce_var (i := 1) rfl (.inl rfl) nd_k nc_k) (ce_callB hC call_lenAll vk_len (.cons (ce_var (i := 0) rfl (.inl rfl) nd_script nc_script) (nostar rfl) .nil) (by rfl) t.n_len (by decide +kernel)) (by rfl)) (css_cons (cs_ret hC (ce_ix hC hu (ce_var (i := 0) rfl (.inl rfl) nd_script nc_script) (ce_var (i := 1) rfl (.inl rfl) nd_k nc_k) (fun _ _ => rfl)))
    css_nil) css_nil)
    (css_cons (cs_ret hC ce_int)
    css_nil))
theorem wk__law_names {A : Ads} (t : Txt B K mg) {n : Nat} (c : All w K mg base B A n) (F : Funs K mg A) : FnOk PP w K mg base (L2.CX PP w) (2 * (n + 1)) A.a__law_names A.d__law_names ["cell", "many"] (spOf (GG B) K (n + 1) 3) :=
  def_ok F.u__law_names sc__law_names rfl fun cdv Ar outer s H E hr => by
  have hC := wpCall_mono (GG B).T (GG B).F n
  have hu := hu_of' hr
  have hp : PassesOwn (model (cxOf (L2.CX PP w) PP w K mg base ["cell", "many", "letters", "mixed", "size", "spot", "filler", "begin", "steps", "step", "names", "k", "sign", "more"] "_law_names" (defScope (top 17)) A.a__law_names cdv Ar outer s H E).prog (cxOf (L2.CX PP w) PP w K mg base ["cell", "many", "letters", "mixed", "size", "spot", "filler", "begin", "steps", "step", "names", "k", "sign", "more"] "_law_names" (defScope (top 17)) A.a__law_names cdv Ar outer s H E).w) (cxOf (L2.CX PP w) PP w K mg base ["cell", "many", "letters", "mixed", "size", "spot", "filler", "begin", "steps", "step", "names", "k", "sign", "more"] "_law_names" (defScope (top 17)) A.a__law_names cdv Ar outer s H E).A (cxOf (L2.CX PP w) PP w K mg base ["cell", "many", "letters", "mixed", "size", "spot", "filler", "begin", "steps", "step", "names", "k", "sign", "more"] "_law_names" (defScope (top 17)) A.a__law_names cdv Ar outer s H E).env (cxOf (L2.CX PP w) PP w K mg base ["cell", "many", "letters", "mixed", "size", "spot", "filler", "begin", "steps", "step", "names", "k", "sign", "more"] "_law_names" (defScope (top 17)) A.a__law_names cdv Ar outer s H E).xe := passes_of rfl
  exact (css_cons (cs_asg (i := 2) hC sc__law_names.nd rfl (.inl rfl) (.inl rfl) (ce_str s0_e s0_b))
    (css_cons (cs_asg (i := 3) hC sc__law_names.nd rfl (.inl rfl) (.inl rfl) (ce_bin hC op_mod vk_mod (ce_bin hC op_mulAll vk_mul (ce_var (i := 0) rfl (.inl rfl) nd_cell nc_cell) ce_int) ce_int))
    (css_cons (cs_asg (i := 4) hC sc__law_names.nd rfl (.inl rfl) (.inl rfl) (ce_bin hC op_addAll vk_add ce_int (ce_bin hC op_mod vk_mod (ce_var (i := 3) rfl (.inl rfl) nd_mixed nc_mixed) ce_int)))
    (css_cons (cs_asg (i := 5) hC sc__law_names.nd rfl (.inl rfl) (.inl rfl) (ce_bin hC op_mod vk_mod (ce_bin hC op_fdiv vk_fdiv (ce_var (i := 3) rfl (.inl rfl) nd_mixed nc_mixed) ce_int) (ce_var (i := 4) rfl (.inl rfl) nd_size nc_size)))
    (css_cons (cs_asg (i := 6) hC sc__law_names.nd rfl (.inr rfl) (.inl rfl) (ce_ix hC hu (ce_var (i := 2) rfl (.inl rfl) nd_letters nc_letters) (ce_bin hC op_mod vk_mod (ce_bin hC op_fdiv vk_fdiv (ce_var (i := 3) rfl (.inl rfl) nd_mixed nc_mixed) ce_int) ce_int) (fun _ _ => rfl)))
    (css_cons (cs_asg (i := 7) hC sc__law_names.nd rfl (.inl rfl) (.inl rfl) (ce_bin hC op_mod vk_mod (ce_bin hC op_fdiv vk_fdiv (ce_var (i := 3) rfl (.inl rfl) nd_mixed nc_mixed) ce_int) ce_int))
    (css_cons (cs_asg (i := 8) hC sc__law_names.nd rfl (.inl rfl) (.inl rfl) (ce_lst hC (.cons ce_int (nostar rfl) (.cons ce_int (nostar rfl) (.cons ce_int (nostar rfl) (.cons ce_int (nostar rfl) (.cons ce_int (nostar rfl) (.cons ce_int (nostar rfl) (.cons ce_int (nostar rfl) (.cons ce_int (nostar rfl) (.cons ce_int (nostar rfl) (.cons ce_int (nostar rfl) (.cons ce_int (nostar rfl) (.cons ce_int (nostar rfl) .nil))))))))))))))
    (css_cons (cs_asg (i := 9) hC sc__law_names.nd rfl (.inl rfl) (.inl rfl) (ce_ix hC hu (ce_var (i := 8) rfl (.inl rfl) nd_steps nc_steps) (ce_bin hC op_mod vk_mod (ce_bin hC op_fdiv vk_fdiv (ce_var (i := 3) rfl (.inl rfl) nd_mixed nc_mixed) ce_int) ce_int) (fun _ _ => rfl)))
    (css_cons (cs_asg (i := 10) hC sc__law_names.nd rfl (.inl rfl) (.inl rfl) (ce_lst hC .nil))
    (css_cons (cs_for1 (i := 11) hC hp rfl sc__law_names.nd rfl (.inl rfl) (.inl rfl) (ci_rng1 hC (by rfl) t.n_range (ce_var (i := 1) rfl (.inl rfl) nd_many nc_many)) (css_cons (cs_asg (i := 12) hC sc__law_names.nd rfl (.inl rfl) (.inl rfl) (ce_ix hC hu (ce_var (i := 2) rfl (.inl rfl) nd_letters nc_letters) (ce_bin hC op_mod vk_mod (ce_bin hC op_addAll vk_add (ce_var (i := 7) rfl (.inl rfl) nd_begin nc_begin) (ce_bin hC op_mulAll vk_mul (ce_var (i := 9) rfl (.inl rfl) nd_step nc_step) (ce_var (i := 11) rfl (.inl rfl) nd_k nc_k))) ce_int) (fun _ _ => rfl)))
    (css_cons (cs_asg (i := 13) hC sc__law_names.nd rfl (.inl rfl) (.inl rfl) (ce_bin hC op_addAll vk_add (ce_bin hC op_sub vk_sub (ce_bin hC op_sub vk_sub (ce_var (i := 4) rfl (.inl rfl) nd_size nc_size) ce_int) (ce_var (i := 5) rfl (.inl rfl) nd_spot nc_spot)) (ce_bin hC op_mulAll vk_mul (ce_bin hC op_mod vk_mod (ce_var (i := 11) rfl (.inl rfl) nd_k nc_k) ce_int) (ce_callTy hC call_intAll vk_int (.cons (ce_cmp hC (op_ltAll hu) vk_lt (ce_var (i := 4) rfl (.inl rfl) nd_size nc_size) ce_int (by rfl)) (nostar rfl) .nil) (by rfl) t.n_int (by decide +kernel)))))
    (css_cons (cs_ex hC (ce_bm hC PySem.F.plainAttrs_list PySem.F.slot_list_append PySem.F.type_list_append mt_append vm_append ty_append (ce_var (i := 10) rfl (.inl rfl) nd_names nc_names) (.cons (ce_bin hC op_addAll vk_add (ce_bin hC op_addAll vk_add (ce_bin hC op_mulAll vk_mul (ce_var (i := 6) rfl (.inr (.inl rfl)) nd_filler nc_filler) (ce_var (i := 5) rfl (.inl rfl) nd_spot nc_spot)) (ce_var (i := 12) rfl (.inl rfl) nd_sign nc_sign)) (ce_bin hC op_mulAll vk_mul (ce_var (i := 6) rfl (.inr (.inl rfl)) nd_filler nc_filler) (ce_var (i := 13) rfl (.inl rfl) nd_more nc_more))) (nostar rfl) .nil)))
    css_nil))))
    (css_cons (cs_ite hC (CW.ct (cw_and hC (ct_cmp hC (op_eqAll hu) vk_eq (ce_bin hC op_mod vk_mod (ce_bin hC op_fdiv vk_fdiv (ce_var (i := 3) rfl (.inl rfl) nd_mixed nc_mixed) ce_int) ce_int) ce_int (by rfl)) (cw_and1 (ct_cmp hC op_le vk_le (ce_var (i := 1) rfl (.inl rfl) nd_many nc_many) ce_int (by rfl))))) (css_cons (cs_asgLc hC (CompR.mk (i := 11) (mt := none) rfl sc__law_names.nd (ci_rng1 hC (by rfl) t.n_range (ce_var (i := 1) rfl (.inl rfl) nd_many nc_many)) (show BlkOk ["cell", "many", "letters", "mixed", "size", "spot", "filler", "begin", "steps", "step", "names", "k", "sign", "more"] (defScope (top 17)) _ _ from ⟨rfl, by decide +kernel, by decide +kernel, by decide +kernel, by decide +kernel⟩) (fun _ _ _ _ _ => pg_name sc__law_names.nd rfl (.inl rfl)) (fun _ _ _ _ _ => pts_nil) (fun _ _ _ _ _ => (ce_bin hC op_mulAll vk_mul (ce_var (i := 6) rfl (.inr (.inl rfl)) nd_filler nc_filler) (ce_bin hC op_addAll vk_add (ce_var (i := 11) rfl (.inl rfl) nd_k nc_k) ce_int))) (fun _ => rfl)) rfl rfl (sw_true rfl rfl rfl (by decide +kernel)))
    css_nil) css_nil)
    (css_cons (cs_ret hC (ce_var (i := 10) rfl (.inl rfl) nd_names nc_names))
    css_nil))))))))))))
theorem wk__law_copy {A : Ads} (t : Txt B K mg) {n : Nat} (c : All w K mg base B A n) (F : Funs K mg A) : FnOk PP w K mg base (L2.CX PP w) (2 * (n + 1)) A.a__law_copy A.d__law_copy ["rows"] (spOf (GG B) K (n + 1) 4) :=
  def_ok F.u__law_copy sc__law_copy rfl fun cdv Ar outer s H E hr => by
  have hC := wpCall_mono (GG B).T (GG B).F n
  have hu := hu_of' hr
  have hp : PassesOwn (model (cxOf (L2.CX PP w) PP w K mg base ["rows", "out", "shelf"] "_law_copy" (defScope (top 18)) A.a__law_copy cdv Ar outer s H E).prog (cxOf (L2.CX PP w) PP w K mg base ["rows", "out", "shelf"] "_law_copy" (defScope (top 18)) A.a__law_copy cdv Ar outer s H E).w) (cxOf (L2.CX PP w) PP w K mg base ["rows", "out", "shelf"] "_law_copy" (defScope (top 18)) A.a__law_copy cdv Ar outer s H E).A (cxOf (L2.CX PP w) PP w K mg base ["rows", "out", "shelf"] "_law_copy" (defScope (top 18)) A.a__law_copy cdv Ar outer s H E).env (cxOf (L2.CX PP w) PP w K mg base ["rows", "out", "shelf"] "_law_copy" (defScope (top 18)) A.a__law_copy cdv Ar outer s H E).xe := passes_of rfl
  exact (css_cons (cs_asg (i := 1) hC sc__law_copy.nd rfl (.inl rfl) (.inl rfl) (ce_dnT hC))
    (css_cons (cs_forV (i := 2) (v := 0) hC hp rfl sc__law_copy.nd rfl (.inl rfl) (.inl rfl) rfl (.inl rfl) nd_rows nc_rows (css_cons (cs_setX hC hu (ce_callTy hC (call_listAll rfl) vk_listOf (.cons (ce_ix hC hu (ce_var (i := 0) rfl (.inl rfl) nd_rows nc_rows) (ce_var (i := 2) rfl (.inl rfl) nd_shelf nc_shelf) (fun _ _ => rfl)) (nostar rfl) .nil) (by rfl) t.n_list (by decide +kernel)) (ce_var (i := 1) rfl (.inl rfl) nd_out nc_out) (ce_var (i := 2) rfl (.inl rfl) nd_shelf nc_shelf))
    css_nil))
    (css_cons (cs_ret hC (ce_var (i := 1) rfl (.inl rfl) nd_out nc_out))
    css_nil)))
theorem wk__law_rows_same {A : Ads} (t : Txt B K mg) {n : Nat} (c : All w K mg base B A n) (F : Funs K mg A) : FnOk PP w K mg base (L2.CX PP w) (2 * (n + 1)) A.a__law_rows_same A.d__law_rows_same ["found", "due"] (spOf (GG B) K (n + 1) 5) :=
  def_ok F.u__law_rows_same sc__law_rows_same rfl fun cdv Ar outer s H E hr => by
  have hC := wpCall_mono (GG B).T (GG B).F n
  have hu := hu_of' hr
  have hp : PassesOwn (model (cxOf (L2.CX PP w) PP w K mg base ["found", "due", "shelf"] "_law_rows_same" (defScope (top 19)) A.a__law_rows_same cdv Ar outer s H E).prog (cxOf (L2.CX PP w) PP w K mg base ["found", "due", "shelf"] "_law_rows_same" (defScope (top 19)) A.a__law_rows_same cdv Ar outer s H E).w) (cxOf (L2.CX PP w) PP w K mg base ["found", "due", "shelf"] "_law_rows_same" (defScope (top 19)) A.a__law_rows_same cdv Ar outer s H E).A (cxOf (L2.CX PP w) PP w K mg base ["found", "due", "shelf"] "_law_rows_same" (defScope (top 19)) A.a__law_rows_same cdv Ar outer s H E).env (cxOf (L2.CX PP w) PP w K mg base ["found", "due", "shelf"] "_law_rows_same" (defScope (top 19)) A.a__law_rows_same cdv Ar outer s H E).xe := passes_of rfl
  exact (css_cons (cs_ite hC (CW.ct (cw_or hC (ct_not hC (ct_val (ce_isi hC (pc := ⟨0, 0, 0, 0⟩) (cl := .ty .dct) (clok_ty (n := .dct)) (.ty _) (pe_bty (by rfl) t.n_dict (by decide +kernel)) (ce_var (i := 0) rfl (.inl rfl) nd_found nc_found) (by rfl) t.n_isinstance) (fun _ => rfl) hC)) (cw_or1 (ct_cmp hC (op_neAll hu) vk_ne (ce_callB hC call_lenAll vk_len (.cons (ce_var (i := 0) rfl (.inl rfl) nd_found nc_found) (nostar rfl) .nil) (by rfl) t.n_len (by decide +kernel)) (ce_callB hC call_lenAll vk_len (.cons (ce_var (i := 1) rfl (.inl rfl) nd_due nc_due) (nostar rfl) .nil) (by rfl) t.n_len (by decide +kernel)) (by rfl))))) (css_cons (cs_ret hC ce_bl)
    css_nil) css_nil)
    (css_cons (cs_forV (i := 2) (v := 1) hC hp rfl sc__law_rows_same.nd rfl (.inl rfl) (.inl rfl) rfl (.inl rfl) nd_due nc_due (css_cons (cs_ite hC (CW.ct (cw_or hC (ct_cmp hC (op_ninAll hu) vk_nin (ce_var (i := 2) rfl (.inl rfl) nd_shelf nc_shelf) (ce_var (i := 0) rfl (.inl rfl) nd_found nc_found) (by rfl)) (cw_or hC (ct_not hC (ct_val (ce_isi hC (pc := ⟨0, 0, 0, 0⟩) (cl := .ty .lst) (clok_ty (n := .lst)) (.ty _) (pe_bty (by rfl) t.n_list (by decide +kernel)) (ce_ix hC hu (ce_var (i := 0) rfl (.inl rfl) nd_found nc_found) (ce_var (i := 2) rfl (.inl rfl) nd_shelf nc_shelf) (fun _ _ => rfl)) (by rfl) t.n_isinstance) (fun _ => rfl) hC)) (cw_or1 (ct_cmp hC (op_neAll hu) vk_ne (ce_ix hC hu (ce_var (i := 0) rfl (.inl rfl) nd_found nc_found) (ce_var (i := 2) rfl (.inl rfl) nd_shelf nc_shelf) (fun _ _ => rfl)) (ce_ix hC hu (ce_var (i := 1) rfl (.inl rfl) nd_due nc_due) (ce_var (i := 2) rfl (.inl rfl) nd_shelf nc_shelf) (fun _ _ => rfl)) (by rfl)))))) (css_cons (cs_ret hC ce_bl)
    css_nil) css_nil)
    css_nil))
    (css_cons (cs_ret hC ce_bl)
    css_nil)))
theorem wk__law_without {A : Ads} (t : Txt B K mg) {n : Nat} (c : All w K mg base B A n) (F : Funs K mg A) : FnOk PP w K mg base (L2.CX PP w) (2 * (n + 1)) A.a__law_without A.d__law_without ["rows", "some"] (spOf (GG B) K (n + 1) 6) :=
  def_ok F.u__law_without sc__law_without rfl fun cdv Ar outer s H E hr => by
  have hC := wpCall_mono (GG B).T (GG B).F n
  have hu := hu_of' hr
  have hp : PassesOwn (model (cxOf (L2.CX PP w) PP w K mg base ["rows", "some", "out", "shelf", "row", "name"] "_law_without" (defScope (top 20)) A.a__law_without cdv Ar outer s H E).prog (cxOf (L2.CX PP w) PP w K mg base ["rows", "some", "out", "shelf", "row", "name"] "_law_without" (defScope (top 20)) A.a__law_without cdv Ar outer s H E).w) (cxOf (L2.CX PP w) PP w K mg base ["rows", "some", "out", "shelf", "row", "name"] "_law_without" (defScope (top 20)) A.a__law_without cdv Ar outer s H E).A (cxOf (L2.CX PP w) PP w K mg base ["rows", "some", "out", "shelf", "row", "name"] "_law_without" (defScope (top 20)) A.a__law_without cdv Ar outer s H E).env (cxOf (L2.CX PP w) PP w K mg base ["rows", "some", "out", "shelf", "row", "name"] "_law_without" (defScope (top 20)) A.a__law_without cdv Ar outer s H E).xe := passes_of rfl
  exact (css_cons (cs_asg (i := 2) hC sc__law_without.nd rfl (.inl rfl) (.inl rfl) (ce_dnT hC))
    (css_cons (cs_forV (i := 3) (v := 0) hC hp rfl sc__law_without.nd rfl (.inl rfl) (.inl rfl) rfl (.inl rfl) nd_rows nc_rows (css_cons (cs_asgLc hC (CompR.mk (i := 5) (mt := (some (.op .nin (.cons (.var 5) (.cons (.var 1) .nil))))) rfl sc__law_without.nd (ci_seq hC (ce_ix hC hu (ce_var (i := 0) rfl (.inl rfl) nd_rows nc_rows) (ce_var (i := 3) rfl (.inl rfl) nd_shelf nc_shelf) (fun _ _ => rfl))) (show BlkOk ["rows", "some", "out", "shelf", "row", "name"] (defScope (top 20)) _ _ from ⟨rfl, by decide +kernel, by decide +kernel, by decide +kernel, by decide +kernel⟩) (fun _ _ _ _ _ => pg_name sc__law_without.nd rfl (.inl rfl)) (fun _ _ _ _ _ => pts_one (pt0 (ct_cmp hC (op_ninAll hu) vk_nin (ce_var (i := 5) rfl (.inl rfl) nd_name nc_name) (ce_var (i := 1) rfl (.inr (.inl rfl)) nd_some nc_some) (by rfl)))) (fun _ _ _ _ _ => (ce_var (i := 5) rfl (.inl rfl) nd_name nc_name)) (fun _ => rfl)) rfl rfl (sw_true rfl rfl rfl (by decide +kernel)))
    (css_cons (cs_ite hC (ct_cmp hC (op_neAll hu) vk_ne (ce_var (i := 4) rfl (.inl rfl) nd_row nc_row) (ce_lst hC .nil) (by rfl)) (css_cons (cs_setX hC hu (ce_var (i := 4) rfl (.inl rfl) nd_row nc_row) (ce_var (i := 2) rfl (.inl rfl) nd_out nc_out) (ce_var (i := 3) rfl (.inl rfl) nd_shelf nc_shelf))
    css_nil) css_nil)
    css_nil)))
    (css_cons (cs_ret hC (ce_var (i := 2) rfl (.inl rfl) nd_out nc_out))
    css_nil)))
theorem wk__law_row {A : Ads} (t : Txt B K mg) {n : Nat} (c : All w K mg base B A n) (F : Funs K mg A) : FnOk PP w K mg base (L2.CX PP w) (2 * (n + 1)) A.a__law_row A.d__law_row ["names", "cell"] (spOf (GG B) K (n + 1) 7) :=
  def_ok F.u__law_row sc__law_row rfl fun cdv Ar outer s H E hr => by
  have hC := wpCall_mono (GG B).T (GG B).F n
  have hu := hu_of' hr
  have hp : PassesOwn (model (cxOf (L2.CX PP w) PP w K mg base ["names", "cell", "mixed", "steps", "step", "size", "k"] "_law_row" (defScope (top 21)) A.a__law_row cdv Ar outer s H E).prog (cxOf (L2.CX PP w) PP w K mg base ["names", "cell", "mixed", "steps", "step", "size", "k"] "_law_row" (defScope (top 21)) A.a__law_row cdv Ar outer s H E).w) (cxOf (L2.CX PP w) PP w K mg base ["names", "cell", "mixed", "steps", "step", "size", "k"] "_law_row" (defScope (top 21)) A.a__law_row cdv Ar outer s H E).A (cxOf (L2.CX PP w) PP w K mg base ["names", "cell", "mixed", "steps", "step", "size", "k"] "_law_row" (defScope (top 21)) A.a__law_row cdv Ar outer s H E).env (cxOf (L2.CX PP w) PP w K mg base ["names", "cell", "mixed", "steps", "step", "size", "k"] "_law_row" (defScope (top 21)) A.a__law_row cdv Ar outer s H E).xe := passes_of rfl
  exact (css_cons (cs_asg (i := 2) hC sc__law_row.nd rfl (.inr rfl) (.inl rfl) (ce_bin hC op_mod vk_mod (ce_bin hC op_mulAll vk_mul (ce_var (i := 1) rfl (.inl rfl) nd_cell nc_cell) ce_int) ce_int))
    (css_cons (cs_asg (i := 3) hC sc__law_row.nd rfl (.inl rfl) (.inl rfl) (ce_lst hC (.cons ce_int (nostar rfl) (.cons ce_int (nostar rfl) (.cons ce_int (nostar rfl) (.cons ce_int (nostar rfl) (.cons ce_int (nostar rfl) (.cons ce_int (nostar rfl) (.cons ce_int (nostar rfl) (.cons ce_int (nostar rfl) (.cons ce_int (nostar rfl) (.cons ce_int (nostar rfl) (.cons ce_int (nostar rfl) (.cons ce_int (nostar rfl) .nil))))))))))))))
    (css_cons (cs_asg (i := 4) hC sc__law_row.nd rfl (.inr rfl) (.inl rfl) (ce_ix hC hu (ce_var (i := 3) rfl (.inl rfl) nd_steps nc_steps) (ce_bin hC op_mod vk_mod (ce_bin hC op_fdiv vk_fdiv (ce_var (i := 2) rfl (.inr (.inl rfl)) nd_mixed nc_mixed) ce_int) ce_int) (fun _ _ => rfl)))
    (css_cons (cs_asg (i := 5) hC sc__law_row.nd rfl (.inl rfl) (.inl rfl) (ce_bin hC op_mod vk_mod (ce_bin hC op_fdiv vk_fdiv (ce_var (i := 2) rfl (.inr (.inl rfl)) nd_mixed nc_mixed) ce_int) ce_int))
    (css_cons (cs_ite hC (ct_cmp hC (op_eqAll hu) vk_eq (ce_bin hC op_mod vk_mod (ce_bin hC op_fdiv vk_fdiv (ce_var (i := 2) rfl (.inr (.inl rfl)) nd_mixed nc_mixed) ce_int) ce_int) ce_int (by rfl)) (css_cons (cs_asg (i := 5) hC sc__law_row.nd rfl (.inl rfl) (.inl rfl) (ce_bin hC op_mod vk_mod (ce_bin hC op_fdiv vk_fdiv (ce_var (i := 2) rfl (.inr (.inl rfl)) nd_mixed nc_mixed) ce_int) ce_int))
    css_nil) css_nil)
    (css_cons (cs_ret hC (ce_comp hC (CompR.mk (i := 6) (mt := none) rfl sc__law_row.nd (ci_rng1 hC (by rfl) t.n_range (ce_var (i := 5) rfl (.inl rfl) nd_size nc_size)) (show BlkOk ["names", "cell", "mixed", "steps", "step", "size", "k"] (defScope (top 21)) _ _ from ⟨rfl, by decide +kernel, by decide +kernel, by decide +kernel, by decide +kernel⟩) (fun _ _ _ _ _ => pg_name sc__law_row.nd rfl (.inl rfl)) (fun _ _ _ _ _ => pts_nil) (fun _ _ _ _ _ => (ce_ix hC hu (ce_var (i := 0) rfl (.inr (.inl rfl)) nd_names nc_names) (ce_bin hC op_mod vk_mod (ce_bin hC op_addAll vk_add (ce_var (i := 2) rfl (.inr (.inl rfl)) nd_mixed nc_mixed) (ce_bin hC op_mulAll vk_mul (ce_var (i := 4) rfl (.inr (.inl rfl)) nd_step nc_step) (ce_var (i := 6) rfl (.inl rfl) nd_k nc_k))) ce_int) (fun _ _ => rfl))) (fun _ => rfl))))
    css_nil))))))
theorem wk__law_tried {A : Ads} (t : Txt B K mg) {n : Nat} (c : All w K mg base B A n) (F : Funs K mg A) : FnOk PP w K mg base (L2.CX PP w) (2 * (n + 1)) A.a__law_tried A.d__law_tried ["rows", "shelf", "name", "place"] (spOf (GG B) K (n + 1) 8) :=
  def_ok F.u__law_tried sc__law_tried rfl fun cdv Ar outer s H E hr => by
  have hC := wpCall_mono (GG B).T (GG B).F n
  have hu := hu_of' hr
  have hp : PassesOwn (model (cxOf (L2.CX PP w) PP w K mg base ["rows", "shelf", "name", "place", "found", "kinds", "e", "others"] "_law_tried" (defScope (top 22)) A.a__law_tried cdv Ar outer s H E).prog (cxOf (L2.CX PP w) PP w K mg base ["rows", "shelf", "name", "place", "found", "kinds", "e", "others"] "_law_tried" (defScope (top 22)) A.a__law_tried cdv Ar outer s H E).w) (cxOf (L2.CX PP w) PP w K mg base ["rows", "shelf", "name", "place", "found", "kinds", "e", "others"] "_law_tried" (defScope (top 22)) A.a__law_tried cdv Ar outer s H E).A (cxOf (L2.CX PP w) PP w K mg base ["rows", "shelf", "name", "place", "found", "kinds", "e", "others"] "_law_tried" (defScope (top 22)) A.a__law_tried cdv Ar outer s H E).env (cxOf (L2.CX PP w) PP w K mg base ["rows", "shelf", "name", "place", "found", "kinds", "e", "others"] "_law_tried" (defScope (top 22)) A.a__law_tried cdv Ar outer s H E).xe := passes_of rfl
  exact (css_cons (cs_asg (i := 4) hC sc__law_tried.nd rfl (.inl rfl) (.inl rfl) ce_non)
    (css_cons (cs_asg (i := 5) hC sc__law_tried.nd rfl (.inl rfl) (.inl rfl) (ce_lst hC .nil))
    (css_cons (cs_tryC (i := 4) (ie := 6) (cc := 0) hC rfl rfl sc__law_tried.nd rfl (.inl rfl) (.inl rfl) rfl rfl ⟨by rfl, nd_HallError, .inl t.m_HallError⟩ rfl t.xm_HallError (fun _ _ => (ce_call (c.f_put_to) hr (by rfl) (.cons (ce_var (i := 0) rfl (.inl rfl) nd_rows nc_rows) (nostar rfl) (.cons (ce_var (i := 1) rfl (.inl rfl) nd_shelf nc_shelf) (nostar rfl) (.cons (ce_var (i := 2) rfl (.inl rfl) nd_name nc_name) (nostar rfl) (.cons (ce_var (i := 3) rfl (.inl rfl) nd_place nc_place) (nostar rfl) .nil)))))) (fun _ _ _ _ _ hk hz hf => (hss_cons (hs_asg (i := 7) hC sc__law_tried.nd rfl (.inl rfl) (.inl rfl) (by decide) (he_isET (ie := 6) (cls := [(.own 1), (.own 2), (.own 3), (.own 5), (.own 6), (.own 7), (.own 8), (.own 9), (.own 10)]) (t.ec _ _ hk) hz hf rfl (.inl rfl) nd_e nc_e (by decide +kernel) (.cons (pe_own (by rfl) t.m_NoName nd_NoName) (.own _) (t.kt_NoName _ _ hk) (nostar rfl) (.cons (pe_own (by rfl) t.m_NoAmount nd_NoAmount) (.own _) (t.kt_NoAmount _ _ hk) (nostar rfl) (.cons (pe_own (by rfl) t.m_NoLeg nd_NoLeg) (.own _) (t.kt_NoLeg _ _ hk) (nostar rfl) (.cons (pe_own (by rfl) t.m_Twice nd_Twice) (.own _) (t.kt_Twice _ _ hk) (nostar rfl) (.cons (pe_own (by rfl) t.m_TooLittle nd_TooLittle) (.own _) (t.kt_TooLittle _ _ hk) (nostar rfl) (.cons (pe_own (by rfl) t.m_NotNow nd_NotNow) (.own _) (t.kt_NotNow _ _ hk) (nostar rfl) (.cons (pe_own (by rfl) t.m_NotForetold nd_NotForetold) (.own _) (t.kt_NotForetold _ _ hk) (nostar rfl) (.cons (pe_own (by rfl) t.m_NoRow nd_NoRow) (.own _) (t.kt_NoRow _ _ hk) (nostar rfl) (.cons (pe_own (by rfl) t.m_NoBack nd_NoBack) (.own _) (t.kt_NoBack _ _ hk) (nostar rfl) .nil))))))))) (by rfl) t.n_isinstance))
    (hss_cons (hs_asg (i := 5) hC sc__law_tried.nd rfl (.inl rfl) (.inl rfl) (by decide) (he_lst hC (.cons (he_isE (ie := 6) (cl := .valErr) (t.ec _ _ hk) hz hf rfl (.inl rfl) nd_e nc_e (pe_bty (by rfl) t.n_ValueError (by decide +kernel)) (.ty _) (t.kt_ValueError _ _ hk) (by rfl) t.n_isinstance) (nostar rfl) (.cons (he_isE (ie := 6) (cl := (.own 4)) (t.ec _ _ hk) hz hf rfl (.inl rfl) nd_e nc_e (pe_own (by rfl) t.m_NotWaiting nd_NotWaiting) (.own _) (t.kt_NotWaiting _ _ hk) (by rfl) t.n_isinstance) (nostar rfl) (.cons (HE.of takes_suite (ce_var (i := 7) rfl (.inl rfl) nd_others nc_others)) (nostar rfl) .nil)))))
    hss_nil))))
    (css_cons (cs_ret hC (ce_tup hC (.cons (ce_var (i := 4) rfl (.inl rfl) nd_found nc_found) (nostar rfl) (.cons (ce_var (i := 5) rfl (.inl rfl) nd_kinds nc_kinds) (nostar rfl) .nil))))
    css_nil))))
theorem wk__law_shelves {A : Ads} (t : Txt B K mg) {n : Nat} (c : All w K mg base B A n) (F : Funs K mg A) : FnOk PP w K mg base (L2.CX PP w) (2 * (n + 1)) A.a__law_shelves A.d__law_shelves ["script"] (spOf (GG B) K (n + 1) 9) :=
  def_ok F.u__law_shelves sc__law_shelves rfl fun cdv Ar outer s H E hr => by
  have hC := wpCall_mono (GG B).T (GG B).F n
  have hu := hu_of' hr
  have hp : PassesOwn (model (cxOf (L2.CX PP w) PP w K mg base ["script", "houses", "wares", "k"] "_law_shelves" (defScope (top 23)) A.a__law_shelves cdv Ar outer s H E).prog (cxOf (L2.CX PP w) PP w K mg base ["script", "houses", "wares", "k"] "_law_shelves" (defScope (top 23)) A.a__law_shelves cdv Ar outer s H E).w) (cxOf (L2.CX PP w) PP w K mg base ["script", "houses", "wares", "k"] "_law_shelves" (defScope (top 23)) A.a__law_shelves cdv Ar outer s H E).A (cxOf (L2.CX PP w) PP w K mg base ["script", "houses", "wares", "k"] "_law_shelves" (defScope (top 23)) A.a__law_shelves cdv Ar outer s H E).env (cxOf (L2.CX PP w) PP w K mg base ["script", "houses", "wares", "k"] "_law_shelves" (defScope (top 23)) A.a__law_shelves cdv Ar outer s H E).xe := passes_of rfl
  exact (css_cons (cs_asg (i := 1) hC sc__law_shelves.nd rfl (.inr rfl) (.inl rfl) (ce_call (c.f__law_names) hr (by rfl) (.cons (ce_call (c.f__law_cell_at) hr (by rfl) (.cons (ce_var (i := 0) rfl (.inl rfl) nd_script nc_script) (nostar rfl) (.cons ce_int (nostar rfl) .nil))) (nostar rfl) (.cons ce_int (nostar rfl) .nil))))
    (css_cons (cs_asg (i := 2) hC sc__law_shelves.nd rfl (.inr rfl) (.inl rfl) (ce_call (c.f__law_names) hr (by rfl) (.cons (ce_call (c.f__law_cell_at) hr (by rfl) (.cons (ce_var (i := 0) rfl (.inl rfl) nd_script nc_script) (nostar rfl) (.cons ce_int (nostar rfl) .nil))) (nostar rfl) (.cons ce_int (nostar rfl) .nil))))
    (css_cons (cs_ret hC (ce_bin hC op_addAll vk_add (ce_comp hC (CompR.mk (i := 3) (mt := none) rfl sc__law_shelves.nd (ci_rng1 hC (by rfl) t.n_range ce_int) (show BlkOk ["script", "houses", "wares", "k"] (defScope (top 23)) _ _ from ⟨rfl, by decide +kernel, by decide +kernel, by decide +kernel, by decide +kernel⟩) (fun _ _ _ _ _ => pg_name sc__law_shelves.nd rfl (.inl rfl)) (fun _ _ _ _ _ => pts_nil) (fun _ _ _ _ _ => (ce_tup hC (.cons (ce_ix hC hu (ce_var (i := 1) rfl (.inr (.inl rfl)) nd_houses nc_houses) (ce_bin hC op_fdiv vk_fdiv (ce_var (i := 3) rfl (.inl rfl) nd_k nc_k) ce_int) (fun _ _ => rfl)) (nostar rfl) (.cons (ce_ix hC hu (ce_var (i := 2) rfl (.inr (.inl rfl)) nd_wares nc_wares) (ce_bin hC op_mod vk_mod (ce_var (i := 3) rfl (.inl rfl) nd_k nc_k) ce_int) (fun _ _ => rfl)) (nostar rfl) .nil)))) (fun _ => rfl))) (ce_lst hC (.cons (ce_tup hC (.cons (ce_ix hC hu (ce_var (i := 1) rfl (.inr (.inl rfl)) nd_houses nc_houses) ce_int (fun _ _ => rfl)) (nostar rfl) (.cons (ce_ix hC hu (ce_var (i := 2) rfl (.inr (.inl rfl)) nd_wares nc_wares) ce_int (fun _ _ => rfl)) (nostar rfl) .nil))) (nostar rfl) .nil))))
    css_nil)))
theorem wk_law {A : Ads} (t : Txt B K mg) {n : Nat} (c : All w K mg base B A n) (F : Funs K mg A) : FnOk PP w K mg base (L2.CX PP w) (2 * (n + 1)) A.a_law A.d_law ["script"] (spOf (GG B) K (n + 1) 10) :=
  def_ok F.u_law sc_law rfl fun cdv Ar outer s H E hr => by
  have hC := wpCall_mono (GG B).T (GG B).F n
  have hu := hu_of' hr
  have hp : PassesOwn (model (cxOf (L2.CX PP w) PP w K mg base ["script", "shelves", "names", "mine", "k", "row", "held", "cells", "spot", "cell", "shelf", "other", "name", "place", "handed", "found", "kinds", "due", "one"] "law" (defScope (top 24)) A.a_law cdv Ar outer s H E).prog (cxOf (L2.CX PP w) PP w K mg base ["script", "shelves", "names", "mine", "k", "row", "held", "cells", "spot", "cell", "shelf", "other", "name", "place", "handed", "found", "kinds", "due", "one"] "law" (defScope (top 24)) A.a_law cdv Ar outer s H E).w) (cxOf (L2.CX PP w) PP w K mg base ["script", "shelves", "names", "mine", "k", "row", "held", "cells", "spot", "cell", "shelf", "other", "name", "place", "handed", "found", "kinds", "due", "one"] "law" (defScope (top 24)) A.a_law cdv Ar outer s H E).A (cxOf (L2.CX PP w) PP w K mg base ["script", "shelves", "names", "mine", "k", "row", "held", "cells", "spot", "cell", "shelf", "other", "name", "place", "handed", "found", "kinds", "due", "one"] "law" (defScope (top 24)) A.a_law cdv Ar outer s H E).env (cxOf (L2.CX PP w) PP w K mg base ["script", "shelves", "names", "mine", "k", "row", "held", "cells", "spot", "cell", "shelf", "other", "name", "place", "handed", "found", "kinds", "due", "one"] "law" (defScope (top 24)) A.a_law cdv Ar outer s H E).xe := passes_of rfl
  exact (css_cons (cs_asg (i := 1) hC sc_law.nd rfl (.inl rfl) (.inl rfl) (ce_call (c.f__law_shelves) hr (by rfl) (.cons (ce_var (i := 0) rfl (.inl rfl) nd_script nc_script) (nostar rfl) .nil)))
    (css_cons (cs_asg (i := 2) hC sc_law.nd rfl (.inl rfl) (.inl rfl) (ce_call (c.f__law_names) hr (by rfl) (.cons (ce_call (c.f__law_cell_at) hr (by rfl) (.cons (ce_var (i := 0) rfl (.inl rfl) nd_script nc_script) (nostar rfl) (.cons ce_int (nostar rfl) .nil))) (nostar rfl) (.cons ce_int (nostar rfl) .nil))))
    (css_cons (cs_asg (i := 3) hC sc_law.nd rfl (.inl rfl) (.inl rfl) (ce_dnT hC))
    (css_cons (cs_for1 (i := 4) hC hp rfl sc_law.nd rfl (.inl rfl) (.inl rfl) (ci_rng1 hC (by rfl) t.n_range ce_int) (css_cons (cs_asg (i := 5) hC sc_law.nd rfl (.inl rfl) (.inl rfl) (ce_call (c.f__law_row) hr (by rfl) (.cons (ce_var (i := 2) rfl (.inl rfl) nd_names nc_names) (nostar rfl) (.cons (ce_call (c.f__law_cell_at) hr (by rfl) (.cons (ce_var (i := 0) rfl (.inl rfl) nd_script nc_script) (nostar rfl) (.cons (ce_bin hC op_addAll vk_add ce_int (ce_var (i := 4) rfl (.inl rfl) nd_k nc_k)) (nostar rfl) .nil))) (nostar rfl) .nil))))
    (css_cons (cs_ite hC (ct_cmp hC (op_neAll hu) vk_ne (ce_var (i := 5) rfl (.inl rfl) nd_row nc_row) (ce_lst hC .nil) (by rfl)) (css_cons (cs_setX hC hu (ce_var (i := 5) rfl (.inl rfl) nd_row nc_row) (ce_var (i := 3) rfl (.inl rfl) nd_mine nc_mine) (ce_ix hC hu (ce_var (i := 1) rfl (.inl rfl) nd_shelves nc_shelves) (ce_var (i := 4) rfl (.inl rfl) nd_k nc_k) (fun _ _ => rfl)))
    css_nil) css_nil)
    css_nil)))
    (css_cons (cs_asg (i := 6) hC sc_law.nd rfl (.inl rfl) (.inl rfl) (ce_lst hC .nil))
    (css_cons (cs_asg (i := 7) hC sc_law.nd rfl (.inl rfl) (.inl rfl) (ce_cutB hC (ce_var (i := 0) rfl (.inl rfl) nd_script nc_script) ce_int ce_int))
    (css_cons (cs_for1 (i := 8) hC hp rfl sc_law.nd rfl (.inl rfl) (.inl rfl) (ci_rng3 hC (by rfl) t.n_range ce_int (ce_callB hC call_lenAll vk_len (.cons (ce_var (i := 7) rfl (.inl rfl) nd_cells nc_cells) (nostar rfl) .nil) (by rfl) t.n_len (by decide +kernel)) ce_int) (css_cons (cs_asg (i := 9) hC sc_law.nd rfl (.inl rfl) (.inl rfl) (ce_bin hC op_mod vk_mod (ce_bin hC op_mulAll vk_mul (ce_ix hC hu (ce_var (i := 7) rfl (.inl rfl) nd_cells nc_cells) (ce_var (i := 8) rfl (.inl rfl) nd_spot nc_spot) (fun _ _ => rfl)) ce_int) ce_int))
    (css_cons (cs_asg (i := 10) hC sc_law.nd rfl (.inl rfl) (.inl rfl) (ce_ix hC hu (ce_var (i := 1) rfl (.inl rfl) nd_shelves nc_shelves) (ce_bin hC op_mod vk_mod (ce_var (i := 9) rfl (.inl rfl) nd_cell nc_cell) ce_int) (fun _ _ => rfl)))
    (css_cons (cs_asg (i := 5) hC sc_law.nd rfl (.inl rfl) (.inl rfl) (ce_get2 hC hu (ce_var (i := 3) rfl (.inl rfl) nd_mine nc_mine) (ce_var (i := 10) rfl (.inl rfl) nd_shelf nc_shelf) (ce_lst hC .nil) ⟨rfl, rfl, rfl, rfl⟩))
    (css_cons (cs_asg (i := 11) hC sc_law.nd rfl (.inl rfl) (.inl rfl) (ce_call (c.f__law_cell_at) hr (by rfl) (.cons (ce_var (i := 7) rfl (.inl rfl) nd_cells nc_cells) (nostar rfl) (.cons (ce_bin hC op_addAll vk_add (ce_var (i := 8) rfl (.inl rfl) nd_spot nc_spot) ce_int) (nostar rfl) .nil))))
    (css_cons (cs_asg (i := 12) hC sc_law.nd rfl (.inl rfl) (.inl rfl) (ce_ix hC hu (ce_var (i := 2) rfl (.inl rfl) nd_names nc_names) (ce_bin hC op_mod vk_mod (ce_var (i := 11) rfl (.inl rfl) nd_other nc_other) ce_int) (fun _ _ => rfl)))
    (css_cons (cs_ite hC (CW.ct (cw_and hC (ct_cmp hC (op_neAll hu) vk_ne (ce_var (i := 5) rfl (.inl rfl) nd_row nc_row) (ce_lst hC .nil) (by rfl)) (cw_and1 (ct_cmp hC op_gt vk_gt (ce_bin hC op_mod vk_mod (ce_bin hC op_fdiv vk_fdiv (ce_var (i := 9) rfl (.inl rfl) nd_cell nc_cell) ce_int) ce_int) ce_int (by rfl))))) (css_cons (cs_asg (i := 12) hC sc_law.nd rfl (.inl rfl) (.inl rfl) (ce_ix hC hu (ce_var (i := 5) rfl (.inl rfl) nd_row nc_row) (ce_bin hC op_mod vk_mod (ce_var (i := 11) rfl (.inl rfl) nd_other nc_other) (ce_callB hC call_lenAll vk_len (.cons (ce_var (i := 5) rfl (.inl rfl) nd_row nc_row) (nostar rfl) .nil) (by rfl) t.n_len (by decide +kernel))) (fun _ _ => rfl)))
    css_nil) css_nil)
    (css_cons (cs_asg (i := 13) hC sc_law.nd rfl (.inl rfl) (.inl rfl) (ce_bin hC op_mod vk_mod (ce_call (c.f__law_cell_at) hr (by rfl) (.cons (ce_var (i := 7) rfl (.inl rfl) nd_cells nc_cells) (nostar rfl) (.cons (ce_bin hC op_addAll vk_add (ce_var (i := 8) rfl (.inl rfl) nd_spot nc_spot) ce_int) (nostar rfl) .nil))) (ce_ix hC hu (ce_lst hC (.cons ce_int (nostar rfl) (.cons ce_int (nostar rfl) (.cons (ce_bin hC op_pow vk_pow ce_int ce_int) (nostar rfl) .nil)))) (ce_bin hC op_mod vk_mod (ce_bin hC op_fdiv vk_fdiv (ce_var (i := 9) rfl (.inl rfl) nd_cell nc_cell) ce_int) ce_int) (fun _ _ => rfl))))
    (css_cons (cs_asg (i := 14) hC sc_law.nd rfl (.inl rfl) (.inl rfl) (ce_call (c.f__law_copy) hr (by rfl) (.cons (ce_var (i := 3) rfl (.inl rfl) nd_mine nc_mine) (nostar rfl) .nil)))
    (css_cons (cs_asgT (is := [15, 16]) hC rfl (.cons sc_law.nd rfl (.inl rfl) (.inl rfl) (.cons sc_law.nd rfl (.inl rfl) (.inl rfl) .nil rfl) rfl) (ce_call (c.f__law_tried) hr (by rfl) (.cons (ce_var (i := 14) rfl (.inl rfl) nd_handed nc_handed) (nostar rfl) (.cons (ce_var (i := 10) rfl (.inl rfl) nd_shelf nc_shelf) (nostar rfl) (.cons (ce_var (i := 12) rfl (.inl rfl) nd_name nc_name) (nostar rfl) (.cons (ce_var (i := 13) rfl (.inl rfl) nd_place nc_place) (nostar rfl) .nil))))))
    (css_cons (cs_ite hC (ct_not hC (ct_val (ce_call (c.f__law_rows_same) hr (by rfl) (.cons (ce_var (i := 14) rfl (.inl rfl) nd_handed nc_handed) (nostar rfl) (.cons (ce_var (i := 3) rfl (.inl rfl) nd_mine nc_mine) (nostar rfl) .nil))) (fun _ => rfl) hC)) (css_cons (cs_ret hC ce_bl)
    css_nil) css_nil)
    (css_cons (cs_ite hC (ct_cmp hC (op_ninAll hu) vk_nin (ce_var (i := 12) rfl (.inl rfl) nd_name nc_name) (ce_var (i := 5) rfl (.inl rfl) nd_row nc_row) (by rfl)) (css_cons (cs_ite hC (ct_cmp hC (op_neAll hu) vk_ne (ce_var (i := 16) rfl (.inl rfl) nd_kinds nc_kinds) (ce_lst hC (.cons ce_bl (nostar rfl) (.cons ce_bl (nostar rfl) (.cons ce_bl (nostar rfl) .nil)))) (by rfl)) (css_cons (cs_ret hC ce_bl)
    css_nil) css_nil)
    css_nil) (css_cons (cs_asg (i := 17) hC sc_law.nd rfl (.inl rfl) (.inl rfl) (ce_call (c.f__law_copy) hr (by rfl) (.cons (ce_var (i := 3) rfl (.inl rfl) nd_mine nc_mine) (nostar rfl) .nil)))
    (css_cons (cs_ex hC (ce_bm hC PySem.F.plainAttrs_list PySem.F.slot_list_remove PySem.F.type_list_remove mt_removeS vm_remove ty_remove (ce_ix hC hu (ce_var (i := 17) rfl (.inl rfl) nd_due nc_due) (ce_var (i := 10) rfl (.inl rfl) nd_shelf nc_shelf) (fun _ _ => rfl)) (.cons (ce_var (i := 12) rfl (.inl rfl) nd_name nc_name) (nostar rfl) .nil)))
    (css_cons (cs_ex hC (ce_bm hC PySem.F.plainAttrs_list PySem.F.slot_list_insert PySem.F.type_list_insert mt_insert vm_insert ty_insert (ce_ix hC hu (ce_var (i := 17) rfl (.inl rfl) nd_due nc_due) (ce_var (i := 10) rfl (.inl rfl) nd_shelf nc_shelf) (fun _ _ => rfl)) (.cons (ce_callB hC (call_min2 rfl) vk_min2 (.cons (ce_var (i := 13) rfl (.inl rfl) nd_place nc_place) (nostar rfl) (.cons (ce_callB hC call_lenAll vk_len (.cons (ce_ix hC hu (ce_var (i := 17) rfl (.inl rfl) nd_due nc_due) (ce_var (i := 10) rfl (.inl rfl) nd_shelf nc_shelf) (fun _ _ => rfl)) (nostar rfl) .nil) (by rfl) t.n_len (by decide +kernel)) (nostar rfl) .nil)) (by rfl) t.n_min (by decide +kernel)) (nostar rfl) (.cons (ce_var (i := 12) rfl (.inl rfl) nd_name nc_name) (nostar rfl) .nil))))
    (css_cons (cs_ite hC (CW.ct (cw_or hC (ct_cmp hC (op_neAll hu) vk_ne (ce_var (i := 16) rfl (.inl rfl) nd_kinds nc_kinds) (ce_lst hC .nil) (by rfl)) (cw_or1 (ct_not hC (ct_val (ce_call (c.f__law_rows_same) hr (by rfl) (.cons (ce_var (i := 15) rfl (.inl rfl) nd_found nc_found) (nostar rfl) (.cons (ce_var (i := 17) rfl (.inl rfl) nd_due nc_due) (nostar rfl) .nil))) (fun _ => rfl) hC))))) (css_cons (cs_ret hC ce_bl)
    css_nil) css_nil)
    (css_cons (cs_ex hC (ce_bm hC PySem.F.plainAttrs_list PySem.F.slot_list_append PySem.F.type_list_append mt_append vm_append ty_append (ce_var (i := 6) rfl (.inl rfl) nd_held nc_held) (.cons (ce_tup hC (.cons (ce_var (i := 15) rfl (.inl rfl) nd_found nc_found) (nostar rfl) (.cons (ce_var (i := 17) rfl (.inl rfl) nd_due nc_due) (nostar rfl) .nil))) (nostar rfl) .nil)))
    (css_cons (cs_asg (i := 3) hC sc_law.nd rfl (.inl rfl) (.inl rfl) (ce_var (i := 17) rfl (.inl rfl) nd_due nc_due))
    css_nil)))))))
    (css_cons (cs_for1 (i := 18) hC hp rfl sc_law.nd rfl (.inl rfl) (.inl rfl) (ci_seq hC (ce_callTy hC (call_listAll rfl) vk_listOf (.cons (ce_var (i := 14) rfl (.inl rfl) nd_handed nc_handed) (nostar rfl) .nil) (by rfl) t.n_list (by decide +kernel))) (css_cons (cs_ex hC (ce_bm hC PySem.F.plainAttrs_list PySem.F.slot_list_append PySem.F.type_list_append mt_append vm_append ty_append (ce_ix hC hu (ce_var (i := 14) rfl (.inl rfl) nd_handed nc_handed) (ce_var (i := 18) rfl (.inl rfl) nd_one nc_one) (fun _ _ => rfl)) (.cons (ce_str s1_e s1_b) (nostar rfl) .nil)))
    css_nil))
    css_nil)))))))))))))
    (css_cons (cs_forT (is := [15, 17]) hC hp rfl (.cons sc_law.nd rfl (.inl rfl) (.inl rfl) (.cons sc_law.nd rfl (.inl rfl) (.inl rfl) .nil rfl) rfl) rfl rfl (ci_seq hC (ce_var (i := 6) rfl (.inl rfl) nd_held nc_held)) (css_cons (cs_ite hC (ct_not hC (ct_val (ce_call (c.f__law_rows_same) hr (by rfl) (.cons (ce_var (i := 15) rfl (.inl rfl) nd_found nc_found) (nostar rfl) (.cons (ce_var (i := 17) rfl (.inl rfl) nd_due nc_due) (nostar rfl) .nil))) (fun _ => rfl) hC)) (css_cons (cs_ret hC ce_bl)
    css_nil) css_nil)
    css_nil))
    (css_cons (cs_ret hC ce_bl)
    css_nil)))))))))
theorem all_zero {A : Ads} (F : Funs K mg A) : All w K mg base B A 0 where
  f_copied := ⟨fn_zero, F.g_copied, F.u_copied.2, F.b_copied⟩
  f_put_to := ⟨fn_zero, F.g_put_to, F.u_put_to.2, F.b_put_to⟩
  f__law_cell_at := ⟨fn_zero, F.g__law_cell_at, F.u__law_cell_at.2, F.b__law_cell_at⟩
  f__law_names := ⟨fn_zero, F.g__law_names, F.u__law_names.2, F.b__law_names⟩
  f__law_copy := ⟨fn_zero, F.g__law_copy, F.u__law_copy.2, F.b__law_copy⟩
  f__law_rows_same := ⟨fn_zero, F.g__law_rows_same, F.u__law_rows_same.2, F.b__law_rows_same⟩
  f__law_without := ⟨fn_zero, F.g__law_without, F.u__law_without.2, F.b__law_without⟩
  f__law_row := ⟨fn_zero, F.g__law_row, F.u__law_row.2, F.b__law_row⟩
  f__law_tried := ⟨fn_zero, F.g__law_tried, F.u__law_tried.2, F.b__law_tried⟩
  f__law_shelves := ⟨fn_zero, F.g__law_shelves, F.u__law_shelves.2, F.b__law_shelves⟩
  f_law := ⟨fn_zero, F.g_law, F.u_law.2, F.b_law⟩
theorem all_succ {A : Ads} (t : Txt B K mg) (F : Funs K mg A) {n : Nat} (c : All w K mg base B A n) : All w K mg base B A (n + 1) where
  f_copied := ⟨wk_copied t c F, F.g_copied, F.u_copied.2, F.b_copied⟩
  f_put_to := ⟨wk_put_to t c F, F.g_put_to, F.u_put_to.2, F.b_put_to⟩
  f__law_cell_at := ⟨wk__law_cell_at t c F, F.g__law_cell_at, F.u__law_cell_at.2, F.b__law_cell_at⟩
  f__law_names := ⟨wk__law_names t c F, F.g__law_names, F.u__law_names.2, F.b__law_names⟩
  f__law_copy := ⟨wk__law_copy t c F, F.g__law_copy, F.u__law_copy.2, F.b__law_copy⟩
  f__law_rows_same := ⟨wk__law_rows_same t c F, F.g__law_rows_same, F.u__law_rows_same.2, F.b__law_rows_same⟩
  f__law_without := ⟨wk__law_without t c F, F.g__law_without, F.u__law_without.2, F.b__law_without⟩
  f__law_row := ⟨wk__law_row t c F, F.g__law_row, F.u__law_row.2, F.b__law_row⟩
  f__law_tried := ⟨wk__law_tried t c F, F.g__law_tried, F.u__law_tried.2, F.b__law_tried⟩
  f__law_shelves := ⟨wk__law_shelves t c F, F.g__law_shelves, F.u__law_shelves.2, F.b__law_shelves⟩
  f_law := ⟨wk_law t c F, F.g_law, F.u_law.2, F.b_law⟩
theorem all_n {A : Ads} (t : Txt B K mg) (F : Funs K mg A) : ∀ n, All w K mg base B A n
  | 0 => all_zero F
  | n + 1 => all_succ t F (all_n t F n)
end
end Lk12
namespace Lk12
open PySem PySem.Spec PyProof.Rows L2 Mp
theorem kex_inv {B : CAd} {k : Nat} {C0 : Addr} (h : (GG B).N.kex k = some C0) : (k = 4 ∧ C0 = B.c_NotWaiting) := by
  unfold GG at h; simp only at h; split at h <;> simp_all
theorem all_mk {w : World} {K : PySem.W.Frag} {h : Heap} {mg : Str → Option Value} {fa : Addr} (X : K.In h) (G : h.Ns mainGlobals mg) (hfa : mg "law" = some (.ref fa))
    {f0 f1 f2 f3 f4 f5 f6 f7 f8 f9 f10 : Addr}
    {od0 an0 od1 an1 od2 an2 od3 an3 od4 an4 od5 an5 od6 an6 od7 an7 od8 an8 od9 an9 od10 an10 : Option Addr}
    {sl0 sl1 sl2 sl3 sl4 sl5 sl6 sl7 sl8 sl9 sl10 : Array (Option Value)}
    {oc0 kV0 dc0 pm0 cd0 ct0 oc1 kV1 dc1 pm1 cd1 ct1 oc2 kV2 dc2 pm2 cd2 ct2 oc3 kV3 dc3 pm3 cd3 ct3 oc4 kV4 dc4 pm4 cd4 ct4 oc5 kV5 dc5 pm5 cd5 ct5 oc6 kV6 dc6 pm6 cd6 ct6 oc7 kV7 dc7 pm7 cd7 ct7 oc8 kV8 dc8 pm8 cd8 ct8 oc9 kV9 dc9 pm9 cd9 ct9 oc10 kV10 dc10 pm10 cd10 ct10 : Value}
    {cl_HallError cl_NoName cl_NoAmount cl_NoLeg cl_NotWaiting cl_Twice cl_TooLittle cl_NotNow cl_NotForetold cl_NoRow cl_NoBack : Addr}
    (a0 : PySem.W.nsIn K mainGlobals "copied" = some (some (.ref f0)))
    (l0 : K.lookup f0 = some ⟨oc0, od0, .func (PySem.W.fnOf "copied" "copied" (defArgs (top 13)) (defBody (top 13)) (defScope (top 13)) .none kV0 dc0 pm0 an0 cd0 ct0), sl0⟩)
    (c0 : PySem.W.codeIn K cd0 "copied" = true)
    (k0 : PySem.W.keepIn K (.ref f0) = true)
    (a1 : PySem.W.nsIn K mainGlobals "put_to" = some (some (.ref f1)))
    (l1 : K.lookup f1 = some ⟨oc1, od1, .func (PySem.W.fnOf "put_to" "put_to" (defArgs (top 14)) (defBody (top 14)) (defScope (top 14)) .none kV1 dc1 pm1 an1 cd1 ct1), sl1⟩)
    (c1 : PySem.W.codeIn K cd1 "put_to" = true)
    (k1 : PySem.W.keepIn K (.ref f1) = true)
    (a2 : PySem.W.nsIn K mainGlobals "_law_cell_at" = some (some (.ref f2)))
    (l2 : K.lookup f2 = some ⟨oc2, od2, .func (PySem.W.fnOf "_law_cell_at" "_law_cell_at" (defArgs (top 16)) (defBody (top 16)) (defScope (top 16)) .none kV2 dc2 pm2 an2 cd2 ct2), sl2⟩)
    (c2 : PySem.W.codeIn K cd2 "_law_cell_at" = true)
    (k2 : PySem.W.keepIn K (.ref f2) = true)
    (a3 : PySem.W.nsIn K mainGlobals "_law_names" = some (some (.ref f3)))
    (l3 : K.lookup f3 = some ⟨oc3, od3, .func (PySem.W.fnOf "_law_names" "_law_names" (defArgs (top 17)) (defBody (top 17)) (defScope (top 17)) .none kV3 dc3 pm3 an3 cd3 ct3), sl3⟩)
    (c3 : PySem.W.codeIn K cd3 "_law_names" = true)
    (k3 : PySem.W.keepIn K (.ref f3) = true)
    (a4 : PySem.W.nsIn K mainGlobals "_law_copy" = some (some (.ref f4)))
    (l4 : K.lookup f4 = some ⟨oc4, od4, .func (PySem.W.fnOf "_law_copy" "_law_copy" (defArgs (top 18)) (defBody (top 18)) (defScope (top 18)) .none kV4 dc4 pm4 an4 cd4 ct4), sl4⟩)
    (c4 : PySem.W.codeIn K cd4 "_law_copy" = true)
    (k4 : PySem.W.keepIn K (.ref f4) = true)
    (a5 : PySem.W.nsIn K mainGlobals "_law_rows_same" = some (some (.ref f5)))
    (l5 : K.lookup f5 = some ⟨oc5, od5, .func (PySem.W.fnOf "_law_rows_same" "_law_rows_same" (defArgs (top 19)) (defBody (top 19)) (defScope (top 19)) .none kV5 dc5 pm5 an5 cd5 ct5), sl5⟩)
    (c5 : PySem.W.codeIn K cd5 "_law_rows_same" = true)
    (k5 : PySem.W.keepIn K (.ref f5) = true)
    (a6 : PySem.W.nsIn K mainGlobals "_law_without" = some (some (.ref f6)))
    (l6 : K.lookup f6 = some ⟨oc6, od6, .func (PySem.W.fnOf "_law_without" "_law_without" (defArgs (top 20)) (defBody (top 20)) (defScope (top 20)) .none kV6 dc6 pm6 an6 cd6 ct6), sl6⟩)
    (c6 : PySem.W.codeIn K cd6 "_law_without" = true)
    (k6 : PySem.W.keepIn K (.ref f6) = true)
    (a7 : PySem.W.nsIn K mainGlobals "_law_row" = some (some (.ref f7)))
    (l7 : K.lookup f7 = some ⟨oc7, od7, .func (PySem.W.fnOf "_law_row" "_law_row" (defArgs (top 21)) (defBody (top 21)) (defScope (top 21)) .none kV7 dc7 pm7 an7 cd7 ct7), sl7⟩)
    (c7 : PySem.W.codeIn K cd7 "_law_row" = true)
    (k7 : PySem.W.keepIn K (.ref f7) = true)
    (a8 : PySem.W.nsIn K mainGlobals "_law_tried" = some (some (.ref f8)))
    (l8 : K.lookup f8 = some ⟨oc8, od8, .func (PySem.W.fnOf "_law_tried" "_law_tried" (defArgs (top 22)) (defBody (top 22)) (defScope (top 22)) .none kV8 dc8 pm8 an8 cd8 ct8), sl8⟩)
    (c8 : PySem.W.codeIn K cd8 "_law_tried" = true)
    (k8 : PySem.W.keepIn K (.ref f8) = true)
    (a9 : PySem.W.nsIn K mainGlobals "_law_shelves" = some (some (.ref f9)))
    (l9 : K.lookup f9 = some ⟨oc9, od9, .func (PySem.W.fnOf "_law_shelves" "_law_shelves" (defArgs (top 23)) (defBody (top 23)) (defScope (top 23)) .none kV9 dc9 pm9 an9 cd9 ct9), sl9⟩)
    (c9 : PySem.W.codeIn K cd9 "_law_shelves" = true)
    (k9 : PySem.W.keepIn K (.ref f9) = true)
    (a10 : PySem.W.nsIn K mainGlobals "law" = some (some (.ref f10)))
    (l10 : K.lookup f10 = some ⟨oc10, od10, .func (PySem.W.fnOf "law" "law" (defArgs (top 24)) (defBody (top 24)) (defScope (top 24)) .none kV10 dc10 pm10 an10 cd10 ct10), sl10⟩)
    (c10 : PySem.W.codeIn K cd10 "law" = true)
    (k10 : PySem.W.keepIn K (.ref f10) = true)
    (z_ValueError : PySem.W.nsIn K mainGlobals "ValueError" = some none)
    (z_dict : PySem.W.nsIn K mainGlobals "dict" = some none)
    (z_int : PySem.W.nsIn K mainGlobals "int" = some none)
    (z_isinstance : PySem.W.nsIn K mainGlobals "isinstance" = some none)
    (z_len : PySem.W.nsIn K mainGlobals "len" = some none)
    (z_list : PySem.W.nsIn K mainGlobals "list" = some none)
    (z_min : PySem.W.nsIn K mainGlobals "min" = some none)
    (z_range : PySem.W.nsIn K mainGlobals "range" = some none)
    (mc_HallError : PySem.W.nsIn K mainGlobals "HallError" = some (some (.ref cl_HallError)))
    (mc_NoName : PySem.W.nsIn K mainGlobals "NoName" = some (some (.ref cl_NoName)))
    (mc_NoAmount : PySem.W.nsIn K mainGlobals "NoAmount" = some (some (.ref cl_NoAmount)))
    (mc_NoLeg : PySem.W.nsIn K mainGlobals "NoLeg" = some (some (.ref cl_NoLeg)))
    (mc_NotWaiting : PySem.W.nsIn K mainGlobals "NotWaiting" = some (some (.ref cl_NotWaiting)))
    (mc_Twice : PySem.W.nsIn K mainGlobals "Twice" = some (some (.ref cl_Twice)))
    (mc_TooLittle : PySem.W.nsIn K mainGlobals "TooLittle" = some (some (.ref cl_TooLittle)))
    (mc_NotNow : PySem.W.nsIn K mainGlobals "NotNow" = some (some (.ref cl_NotNow)))
    (mc_NotForetold : PySem.W.nsIn K mainGlobals "NotForetold" = some (some (.ref cl_NotForetold)))
    (mc_NoRow : PySem.W.nsIn K mainGlobals "NoRow" = some (some (.ref cl_NoRow)))
    (mc_NoBack : PySem.W.nsIn K mainGlobals "NoBack" = some (some (.ref cl_NoBack)))
    (x_hn : PySem.W.specialIn K (.builtin "object.__class__") "__get__" = some (some (.builtin "getset_descriptor.__get__")))
    (x_ht : PySem.W.takesIn K (.builtin "object.__class__") = some true)
    (xe_NotWaiting : PySem.W.excIn K cl_NotWaiting [.type "ValueError", .type "Exception", .type "BaseException", .type "object"] "ValueError.__new__" = true)
    (kp_NotWaiting : PySem.W.keepIn K (.ref cl_NotWaiting) = true)
    (sb_NotWaiting : PySem.W.subIn K (.ref cl_NotWaiting) (.type "BaseException") = some true)
    (ty_NotWaiting : PySem.W.typeIn K (.ref cl_NotWaiting) = some (.type "type"))
    (ga_NotWaiting : PySem.W.findIn K (.ref cl_NotWaiting) "__getattribute__" = some (some (.builtin "BaseException.__getattribute__")))
    (gg_NotWaiting : PySem.W.findIn K (.ref cl_NotWaiting) "__getattr__" = some none)
    (hd_NotWaiting : PySem.W.hasDictIn K cl_NotWaiting = true)
    (ca_NotWaiting : PySem.W.findIn K (.ref cl_NotWaiting) "__class__" = some (some (.builtin "object.__class__")))
    (mo_NotWaiting : PySem.W.mroIn K cl_NotWaiting (.type "object") = some true)
    (su_NotWaiting_NotWaiting : PySem.W.subIn K (.ref cl_NotWaiting) (.ref cl_NotWaiting) = some true)
    (sv_NotWaiting : PySem.W.subIn K (.ref cl_NotWaiting) (.type "ValueError") = some true)
    (ic_HallError : PySem.W.isClsIn K cl_HallError = true)
    (ty_HallError : PySem.W.typeIn K (.ref cl_HallError) = some (.type "type"))
    (su_NotWaiting_HallError : PySem.W.subIn K (.ref cl_NotWaiting) (.ref cl_HallError) = some true)
    (sb_HallError : PySem.W.subIn K (.ref cl_HallError) (.type "BaseException") = some true)
    (hd_HallError : PySem.W.hasDictIn K cl_HallError = true)
    (ic_NoName : PySem.W.isClsIn K cl_NoName = true)
    (ty_NoName : PySem.W.typeIn K (.ref cl_NoName) = some (.type "type"))
    (su_NotWaiting_NoName : PySem.W.subIn K (.ref cl_NotWaiting) (.ref cl_NoName) = some false)
    (ic_NoAmount : PySem.W.isClsIn K cl_NoAmount = true)
    (ty_NoAmount : PySem.W.typeIn K (.ref cl_NoAmount) = some (.type "type"))
    (su_NotWaiting_NoAmount : PySem.W.subIn K (.ref cl_NotWaiting) (.ref cl_NoAmount) = some false)
    (ic_NoLeg : PySem.W.isClsIn K cl_NoLeg = true)
    (ty_NoLeg : PySem.W.typeIn K (.ref cl_NoLeg) = some (.type "type"))
    (su_NotWaiting_NoLeg : PySem.W.subIn K (.ref cl_NotWaiting) (.ref cl_NoLeg) = some false)
    (ic_NotWaiting : PySem.W.isClsIn K cl_NotWaiting = true)
    (ic_Twice : PySem.W.isClsIn K cl_Twice = true)
    (ty_Twice : PySem.W.typeIn K (.ref cl_Twice) = some (.type "type"))
    (su_NotWaiting_Twice : PySem.W.subIn K (.ref cl_NotWaiting) (.ref cl_Twice) = some false)
    (ic_TooLittle : PySem.W.isClsIn K cl_TooLittle = true)
    (ty_TooLittle : PySem.W.typeIn K (.ref cl_TooLittle) = some (.type "type"))
    (su_NotWaiting_TooLittle : PySem.W.subIn K (.ref cl_NotWaiting) (.ref cl_TooLittle) = some false)
    (ic_NotNow : PySem.W.isClsIn K cl_NotNow = true)
    (ty_NotNow : PySem.W.typeIn K (.ref cl_NotNow) = some (.type "type"))
    (su_NotWaiting_NotNow : PySem.W.subIn K (.ref cl_NotWaiting) (.ref cl_NotNow) = some false)
    (ic_NotForetold : PySem.W.isClsIn K cl_NotForetold = true)
    (ty_NotForetold : PySem.W.typeIn K (.ref cl_NotForetold) = some (.type "type"))
    (su_NotWaiting_NotForetold : PySem.W.subIn K (.ref cl_NotWaiting) (.ref cl_NotForetold) = some false)
    (ic_NoRow : PySem.W.isClsIn K cl_NoRow = true)
    (ty_NoRow : PySem.W.typeIn K (.ref cl_NoRow) = some (.type "type"))
    (su_NotWaiting_NoRow : PySem.W.subIn K (.ref cl_NotWaiting) (.ref cl_NoRow) = some false)
    (ic_NoBack : PySem.W.isClsIn K cl_NoBack = true)
    (ty_NoBack : PySem.W.typeIn K (.ref cl_NoBack) = some (.type "type"))
    (su_NotWaiting_NoBack : PySem.W.subIn K (.ref cl_NotWaiting) (.ref cl_NoBack) = some false) :
    ∃ fd : FuncData, (∀ (s : Shared) (v : Value), BindsTo s fd ⟨[v], []⟩ [("script", v)]) ∧ ∀ base : Heap, K.In base → base.Ns mainGlobals mg → FnOk PP w K mg base (L2.CX PP w) (2 * 4) fa fd ["script"] (spOf (GG ⟨cl_HallError, cl_NoName, cl_NoAmount, cl_NoLeg, cl_NotWaiting, cl_Twice, cl_TooLittle, cl_NotNow, cl_NotForetold, cl_NoRow, cl_NoBack⟩) K 4 10) := by
  have e := hfa.symm.trans (PySem.W.mg_of X G a10)
  cases e
  have T : Txt ⟨cl_HallError, cl_NoName, cl_NoAmount, cl_NoLeg, cl_NotWaiting, cl_Twice, cl_TooLittle, cl_NotNow, cl_NotForetold, cl_NoRow, cl_NoBack⟩ K mg := ⟨PySem.W.mg_none_of X G z_ValueError, PySem.W.mg_none_of X G z_dict, PySem.W.mg_none_of X G z_int, PySem.W.mg_none_of X G z_isinstance, PySem.W.mg_none_of X G z_len, PySem.W.mg_none_of X G z_list, PySem.W.mg_none_of X G z_min, PySem.W.mg_none_of X G z_range, PySem.W.mg_of X G mc_HallError, PySem.W.mg_of X G mc_NoName, PySem.W.mg_of X G mc_NoAmount, PySem.W.mg_of X G mc_NoLeg, PySem.W.mg_of X G mc_NotWaiting, PySem.W.mg_of X G mc_Twice, PySem.W.mg_of X G mc_TooLittle, PySem.W.mg_of X G mc_NotNow, PySem.W.mg_of X G mc_NotForetold, PySem.W.mg_of X G mc_NoRow, PySem.W.mg_of X G mc_NoBack, ⟨⟨_, _, _, _, _, rfl, PySem.W.mg_of X G mc_NotWaiting, PySem.F.excBase_ValueError, xe_NotWaiting, kp_NotWaiting, sb_NotWaiting, ty_NotWaiting⟩⟩, (fun k C0 h => by rcases kex_inv h with ⟨rfl, rfl⟩; exact ⟨ga_NotWaiting, gg_NotWaiting, sb_NotWaiting, hd_NotWaiting, ca_NotWaiting, x_hn, x_ht, mo_NotWaiting⟩), (fun k C0 h => by rcases kex_inv h with ⟨rfl, rfl⟩; exact kit_own ic_NotWaiting ty_NotWaiting su_NotWaiting_NotWaiting su_NotWaiting_NotWaiting), (fun k C0 h => by rcases kex_inv h with ⟨rfl, rfl⟩; exact kit_own ic_NoBack ty_NoBack su_NotWaiting_NoBack su_NotWaiting_NotWaiting), (fun k C0 h => by rcases kex_inv h with ⟨rfl, rfl⟩; exact kit_own ic_NoRow ty_NoRow su_NotWaiting_NoRow su_NotWaiting_NotWaiting), (fun k C0 h => by rcases kex_inv h with ⟨rfl, rfl⟩; exact kit_own ic_NotForetold ty_NotForetold su_NotWaiting_NotForetold su_NotWaiting_NotWaiting), (fun k C0 h => by rcases kex_inv h with ⟨rfl, rfl⟩; exact kit_own ic_NotNow ty_NotNow su_NotWaiting_NotNow su_NotWaiting_NotWaiting), (fun k C0 h => by rcases kex_inv h with ⟨rfl, rfl⟩; exact kit_own ic_TooLittle ty_TooLittle su_NotWaiting_TooLittle su_NotWaiting_NotWaiting), (fun k C0 h => by rcases kex_inv h with ⟨rfl, rfl⟩; exact kit_own ic_Twice ty_Twice su_NotWaiting_Twice su_NotWaiting_NotWaiting), (fun k C0 h => by rcases kex_inv h with ⟨rfl, rfl⟩; exact kit_own ic_NoLeg ty_NoLeg su_NotWaiting_NoLeg su_NotWaiting_NotWaiting), (fun k C0 h => by rcases kex_inv h with ⟨rfl, rfl⟩; exact kit_own ic_NoAmount ty_NoAmount su_NotWaiting_NoAmount su_NotWaiting_NotWaiting), (fun k C0 h => by rcases kex_inv h with ⟨rfl, rfl⟩; exact kit_own ic_NoName ty_NoName su_NotWaiting_NoName su_NotWaiting_NotWaiting), (fun k C0 h => by rcases kex_inv h with ⟨rfl, rfl⟩; exact kit_val sv_NotWaiting), (fun k C0 h => by rcases kex_inv h with ⟨rfl, rfl⟩; exact PySem.W.exm_ref sb_HallError hd_HallError ty_HallError su_NotWaiting_HallError)⟩
  have F0 := fun_mk (x := "copied") (qual := "copied") (st := top 13) l0 c0 k0
  have b0 := F0.binds (ps := ["rows"]) fun _ _ _ _ _ _ us hl => match us, hl with | [_], _ => rfl
  have F1 := fun_mk (x := "put_to") (qual := "put_to") (st := top 14) l1 c1 k1
  have b1 := F1.binds (ps := ["rows", "shelf", "name", "place"]) fun _ _ _ _ _ _ us hl => match us, hl with | [_, _, _, _], _ => rfl
  have F2 := fun_mk (x := "_law_cell_at") (qual := "_law_cell_at") (st := top 16) l2 c2 k2
  have b2 := F2.binds (ps := ["script", "k"]) fun _ _ _ _ _ _ us hl => match us, hl with | [_, _], _ => rfl
  have F3 := fun_mk (x := "_law_names") (qual := "_law_names") (st := top 17) l3 c3 k3
  have b3 := F3.binds (ps := ["cell", "many"]) fun _ _ _ _ _ _ us hl => match us, hl with | [_, _], _ => rfl
  have F4 := fun_mk (x := "_law_copy") (qual := "_law_copy") (st := top 18) l4 c4 k4
  have b4 := F4.binds (ps := ["rows"]) fun _ _ _ _ _ _ us hl => match us, hl with | [_], _ => rfl
  have F5 := fun_mk (x := "_law_rows_same") (qual := "_law_rows_same") (st := top 19) l5 c5 k5
  have b5 := F5.binds (ps := ["found", "due"]) fun _ _ _ _ _ _ us hl => match us, hl with | [_, _], _ => rfl
  have F6 := fun_mk (x := "_law_without") (qual := "_law_without") (st := top 20) l6 c6 k6
  have b6 := F6.binds (ps := ["rows", "some"]) fun _ _ _ _ _ _ us hl => match us, hl with | [_, _], _ => rfl
  have F7 := fun_mk (x := "_law_row") (qual := "_law_row") (st := top 21) l7 c7 k7
  have b7 := F7.binds (ps := ["names", "cell"]) fun _ _ _ _ _ _ us hl => match us, hl with | [_, _], _ => rfl
  have F8 := fun_mk (x := "_law_tried") (qual := "_law_tried") (st := top 22) l8 c8 k8
  have b8 := F8.binds (ps := ["rows", "shelf", "name", "place"]) fun _ _ _ _ _ _ us hl => match us, hl with | [_, _, _, _], _ => rfl
  have F9 := fun_mk (x := "_law_shelves") (qual := "_law_shelves") (st := top 23) l9 c9 k9
  have b9 := F9.binds (ps := ["script"]) fun _ _ _ _ _ _ us hl => match us, hl with | [_], _ => rfl
  have F10 := fun_mk (x := "law") (qual := "law") (st := top 24) l10 c10 k10
  have b10 := F10.binds (ps := ["script"]) fun _ _ _ _ _ _ us hl => match us, hl with | [_], _ => rfl
  have A : Funs K mg ⟨f0, f1, f2, f3, f4, f5, f6, f7, f8, f9, fa, _, _, _, _, _, _, _, _, _, _, _⟩ := ⟨F0, PySem.W.mg_of X G a0, b0, F1, PySem.W.mg_of X G a1, b1, F2, PySem.W.mg_of X G a2, b2, F3, PySem.W.mg_of X G a3, b3, F4, PySem.W.mg_of X G a4, b4, F5, PySem.W.mg_of X G a5, b5, F6, PySem.W.mg_of X G a6, b6, F7, PySem.W.mg_of X G a7, b7, F8, PySem.W.mg_of X G a8, b8, F9, PySem.W.mg_of X G a9, b9, F10, PySem.W.mg_of X G a10, b10⟩
  exact ⟨_, fun s v => .of_eq rfl, fun base _ _ => (all_n T A 4).f_law.ok⟩
theorem walk {B : CAd} {l : PySem.W.OpenLaw} (hl : l.prog = PP) {q : Program} {loose : List Str} {XP : (Str → Option Value) → Heap → Prop} {YP : World → Heap → Prop} {d : DefRec} {K : Params → PySem.W.Frag} (hn : l.most = some 63) (hdf : d.params.defaults = [])
    (hY : ∀ (w : World) (h : Heap), YP w h → (K w.params).In h)
    (F : ∀ (w : World) (mg : Str → Option Value) (fa : Addr) (h : Heap), (K w.params).In h → h.Ns mainGlobals mg → mg d.name = some (.ref fa) →
      ∃ fd : FuncData, (∀ (s : Shared) (u : Value), BindsTo s fd ⟨[u], []⟩ [("script", u)]) ∧ ∀ base : Heap, (K w.params).In base → base.Ns mainGlobals mg → FnOk PP w (K w.params) mg base (L2.CX PP w) (2 * 4) fa fd ["script"] (spOf (GG B) (K w.params) 4 10)) :
    PySem.W.WalkO q loose XP YP l.row.toRowW d [] (fun f vs => PySem.call f vs) :=
  L2.walk_of (n := 63) (k := 2 * 4) (x := "script") (CX := fun w => L2.CX PP w) (sp := fun w => spOf (GG B) (K w.params) 4 10) hn (by decide) hdf ⟨rfl, by decide, by decide⟩ hY (hl ▸ F) (fun w H a ns h1 h2 h3 => law_sp law_clean H a ns h1 h2 h3) fun _ _ _ _ _ z => cx_none z
end Lk12
open PySem PySem.W PyProof.Rows
set_option maxRecDepth 100000 in
set_option maxHeartbeats 0 in
theorem PySem.Challenge.cw_dealknot_k12_put_to_a_place_holds : PySem.Challenge.rw_dealknot_k12_put_to_a_place.Holds := by
  w_on; o_law; k_head; (case hw => w_witness2)
  k_fill
  refine' Lk12.walk (B := ⟨?bHallError, ?bNoName, ?bNoAmount, ?bNoLeg, ?bNotWaiting, ?bTwice, ?bTooLittle, ?bNotNow, ?bNotForetold, ?bNoRow, ?bNoBack⟩) (l := PySem.Challenge.rw_dealknot_k12_put_to_a_place) rfl rfl rfl (fun w h Y => PySem.W.kIn_of Y) ?F
  case F =>
    intro w mg fa h KX G hmg
    refine' Lk12.all_mk KX G hmg ?a0 ?l0 ?c0 ?k0 ?a1 ?l1 ?c1 ?k1 ?a2 ?l2 ?c2 ?k2 ?a3 ?l3 ?c3 ?k3 ?a4 ?l4 ?c4 ?k4 ?a5 ?l5 ?c5 ?k5 ?a6 ?l6 ?c6 ?k6 ?a7 ?l7 ?c7 ?k7 ?a8 ?l8 ?c8 ?k8 ?a9 ?l9 ?c9 ?k9 ?a10 ?l10 ?c10 ?k10 ?z_ValueError ?z_dict ?z_int ?z_isinstance ?z_len ?z_list ?z_min ?z_range ?mc_HallError ?mc_NoName ?mc_NoAmount ?mc_NoLeg ?mc_NotWaiting ?mc_Twice ?mc_TooLittle ?mc_NotNow ?mc_NotForetold ?mc_NoRow ?mc_NoBack ?x_hn ?x_ht ?xe_NotWaiting ?kp_NotWaiting ?sb_NotWaiting ?ty_NotWaiting ?ga_NotWaiting ?gg_NotWaiting ?hd_NotWaiting ?ca_NotWaiting ?mo_NotWaiting ?su_NotWaiting_NotWaiting ?sv_NotWaiting ?ic_HallError ?ty_HallError ?su_NotWaiting_HallError ?sb_HallError ?hd_HallError ?ic_NoName ?ty_NoName ?su_NotWaiting_NoName ?ic_NoAmount ?ty_NoAmount ?su_NotWaiting_NoAmount ?ic_NoLeg ?ty_NoLeg ?su_NotWaiting_NoLeg ?ic_NotWaiting ?ic_Twice ?ty_Twice ?su_NotWaiting_Twice ?ic_TooLittle ?ty_TooLittle ?su_NotWaiting_TooLittle ?ic_NotNow ?ty_NotNow ?su_NotWaiting_NotNow ?ic_NotForetold ?ty_NotForetold ?su_NotWaiting_NotForetold ?ic_NoRow ?ty_NoRow ?su_NotWaiting_NoRow ?ic_NoBack ?ty_NoBack ?su_NotWaiting_NoBack
    (case a0 => k_is)
    (case l0 => k_is)
    (case c0 => k_is)
    (case k0 => k_is)
    (case a1 => k_is)
    (case l1 => k_is)
    (case c1 => k_is)
    (case k1 => k_is)
    (case a2 => k_is)
    (case l2 => k_is)
    (case c2 => k_is)
    (case k2 => k_is)
    (case a3 => k_is)
    (case l3 => k_is)
    (case c3 => k_is)
    (case k3 => k_is)
    (case a4 => k_is)
    (case l4 => k_is)
    (case c4 => k_is)
    (case k4 => k_is)
    (case a5 => k_is)
    (case l5 => k_is)
    (case c5 => k_is)
    (case k5 => k_is)
    (case a6 => k_is)
    (case l6 => k_is)
    (case c6 => k_is)
    (case k6 => k_is)
    (case a7 => k_is)
    (case l7 => k_is)
    (case c7 => k_is)
    (case k7 => k_is)
    (case a8 => k_is)
    (case l8 => k_is)
    (case c8 => k_is)
    (case k8 => k_is)
    (case a9 => k_is)
    (case l9 => k_is)
    (case c9 => k_is)
    (case k9 => k_is)
    (case a10 => k_is)
    (case l10 => k_is)
    (case c10 => k_is)
    (case k10 => k_is)
    (case z_ValueError => k_is)
    (case z_dict => k_is)
    (case z_int => k_is)
    (case z_isinstance => k_is)
    (case z_len => k_is)
    (case z_list => k_is)
    (case z_min => k_is)
    (case z_range => k_is)
    (case mc_HallError => k_is)
    (case mc_NoName => k_is)
    (case mc_NoAmount => k_is)
    (case mc_NoLeg => k_is)
    (case mc_NotWaiting => k_is)
    (case mc_Twice => k_is)
    (case mc_TooLittle => k_is)
    (case mc_NotNow => k_is)
    (case mc_NotForetold => k_is)
    (case mc_NoRow => k_is)
    (case mc_NoBack => k_is)
    (case x_hn => k_is)
    (case x_ht => k_is)
    (case xe_NotWaiting => k_exc)
    (case kp_NotWaiting => k_is)
    (case sb_NotWaiting => k_is)
    (case ty_NotWaiting => k_is)
    (case ga_NotWaiting => k_is)
    (case gg_NotWaiting => k_is)
    (case hd_NotWaiting => k_is)
    (case ca_NotWaiting => k_is)
    (case mo_NotWaiting => k_is)
    (case su_NotWaiting_NotWaiting => k_is)
    (case sv_NotWaiting => k_is)
    (case ic_HallError => k_is)
    (case ty_HallError => k_is)
    (case su_NotWaiting_HallError => k_is)
    (case sb_HallError => k_is)
    (case hd_HallError => k_is)
    (case ic_NoName => k_is)
    (case ty_NoName => k_is)
    (case su_NotWaiting_NoName => k_is)
    (case ic_NoAmount => k_is)
    (case ty_NoAmount => k_is)
    (case su_NotWaiting_NoAmount => k_is)
    (case ic_NoLeg => k_is)
    (case ty_NoLeg => k_is)
    (case su_NotWaiting_NoLeg => k_is)
    (case ic_NotWaiting => k_is)
    (case ic_Twice => k_is)
    (case ty_Twice => k_is)
    (case su_NotWaiting_Twice => k_is)
    (case ic_TooLittle => k_is)
    (case ty_TooLittle => k_is)
    (case su_NotWaiting_TooLittle => k_is)
    (case ic_NotNow => k_is)
    (case ty_NotNow => k_is)
    (case su_NotWaiting_NotNow => k_is)
    (case ic_NotForetold => k_is)
    (case ty_NotForetold => k_is)
    (case su_NotWaiting_NotForetold => k_is)
    (case ic_NoRow => k_is)
    (case ty_NoRow => k_is)
    (case su_NotWaiting_NoRow => k_is)
    (case ic_NoBack => k_is)
    (case ty_NoBack => k_is)
    (case su_NotWaiting_NoBack => k_is)
