import PyProof.Rows.All
import Wide.All
import OpenK.AllK
import Wide.FinOn
import HandS.ForMost
import HandS.Deep
import HandS.Conv
import HandS.TupLen
import HandS.Exc
import HandS.TryOnly
import HandS.ExcOwn
import HandS.StrMore
import HandS.More
import HandS.Codes
import HandS.IsInst
import HandS.ExcIs
import HandS.Style
import HandS.WordsDict
import HandS.WordsExc
import KE.SortData
import KE.KEqDict
import KE.LtData
import KE.KDictWalk
import HandS.SetFor
import KE.DataFind
import OpenK.KMake
import HandS.Replace
import PySem.Challenge.RW_dealknot_k62_rows_refused
set_option Elab.async false
set_option linter.all false
set_option maxRecDepth 100000
/-! A small clean language: data, a store of objects, terms and commands, and what each of them does (weakest preconditions). -/
namespace Mp
open PySem
/-- data: texts are lists of signs, tuples are told whole (so is a list that is only read: lis); lists, dicts and instances are places of the store -/
inductive D where
  | non
  | bl (b : Bool)
  | int (i : Int)
  | str (s : List Nat)
  | tup (ds : List D)
  | lis (ds : List D)
  | ref (r : Nat)
  deriving Inhabited
mutual
def D.same : D → D → Bool
  | .non, .non => true
  | .bl a, .bl b => a == b
  | .int a, .int b => decide (a = b)
  | .str a, .str b => decide (a = b)
  | .ref a, .ref b => decide (a = b)
  | .tup a, .tup b => D.sames a b
  | .lis a, .lis b => D.sames a b
  | _, _ => false
def D.sames : List D → List D → Bool
  | [], [] => true
  | a :: r, b :: t => D.same a b && D.sames r t
  | _, _ => false
end
mutual
theorem D.same_eq : ∀ a b : D, D.same a b = true → a = b
  | .non, b, h => by cases b <;> simp_all [D.same]
  | .bl a, b, h => by cases b <;> simp_all [D.same]
  | .int a, b, h => by cases b <;> simp_all [D.same]
  | .str a, b, h => by cases b <;> simp_all [D.same]
  | .ref a, b, h => by cases b <;> simp_all [D.same]
  | .tup a, b, h => by
    cases b with
    | tup b => simp only [D.same] at h; rw [D.sames_eq a b h]
    | _ => simp [D.same] at h
  | .lis a, b, h => by
    cases b with
    | lis b => simp only [D.same] at h; rw [D.sames_eq a b h]
    | _ => simp [D.same] at h
theorem D.sames_eq : ∀ a b : List D, D.sames a b = true → a = b
  | [], [], _ => rfl
  | [], _ :: _, h => by simp [D.sames] at h
  | _ :: _, [], h => by simp [D.sames] at h
  | a :: r, b :: t, h => by
    simp only [D.sames, Bool.and_eq_true] at h
    rw [D.same_eq a b h.1, D.sames_eq r t h.2]
end
mutual
theorem D.same_refl : ∀ a : D, D.same a a = true
  | .non => by simp [D.same]
  | .bl a => by simp [D.same]
  | .int a => by simp [D.same]
  | .str a => by simp [D.same]
  | .ref a => by simp [D.same]
  | .tup a => by simp only [D.same]; exact D.sames_refl a
  | .lis a => by simp only [D.same]; exact D.sames_refl a
theorem D.sames_refl : ∀ a : List D, D.sames a a = true
  | [] => by simp [D.sames]
  | a :: r => by simp only [D.sames, Bool.and_eq_true]; exact ⟨D.same_refl a, D.sames_refl r⟩
end
instance : DecidableEq D := fun a b =>
  if h : D.same a b = true then .isTrue (D.same_eq a b h) else .isFalse fun e => h (e ▸ D.same_refl a)
/-- objects of the store: a list, a dict (keys tuples: t; being walked: lk), an instance -/
inductive Ob where
  | lst (ds : List D)
  | dic (t lk : Bool) (kvs : List (D × D))
  | ins (c : Nat) (fs : List (Nat × D))
  deriving Inhabited
abbrev Sto := List Ob
abbrev Env := List (Option D)
abbrev PQ := D → Sto → Prop
abbrev PX := Nat → Sto → Prop
/-- the items of a list -/
def seqOf : Ob → Option (List D)
  | .lst ds => some ds
  | _ => none
def lstAt (S : Sto) (r : Nat) : Option (List D) := (S[r]?).bind seqOf
/-- .. told whole, or at its place -/
def seqD (S : Sto) : D → Option (List D)
  | .lis ds => some ds
  | .ref r => lstAt S r
  | _ => none
def look (kvs : List (D × D)) (k : D) : Option D := (kvs.find? fun p => decide (p.1 = k)).map (·.2)
def put (kvs : List (D × D)) (k v : D) : List (D × D) :=
  if (kvs.any fun p => decide (p.1 = k)) = true then kvs.map fun p => if p.1 = k then (p.1, v) else p else kvs ++ [(k, v)]
def lookF (fs : List (Nat × D)) (f : Nat) : Option D := fs.lookup f
def putN (f : Nat) (v : D) : List (Nat × D) → List (Nat × D)
  | [] => [(f, v)]
  | (g, x) :: r => if g = f then (g, v) :: r else (g, x) :: putN f v r
/-- a key of a dict: a text or a number; a tuple of such -/
def key1 : D → Option L2.Key
  | .int i => some (.inl i)
  | .str s => some (.inr ⟨s.toArray⟩)
  | _ => none
def keyT : D → Option (List L2.Key)
  | .tup ds => ds.mapM key1
  | _ => none
def keyOk (t : Bool) (k : D) : Bool := if t then (keyT k).isSome else (key1 k).isSome
/-- what == compares: data without places -/
def pd (S : Sto) : Nat → D → Option PyData
  | 0, _ => none
  | _ + 1, .non => some .none
  | _ + 1, .bl b => some (.bool b)
  | _ + 1, .int i => some (.int i)
  | _ + 1, .str s => some (.str ⟨s.toArray⟩)
  | n + 1, .tup ds => (ds.mapM (pd S n)).map .tuple
  | n + 1, .lis ds => (ds.mapM (pd S n)).map .list
  | n + 1, .ref r => ((lstAt S r).bind fun ds => ds.mapM (pd S n)).map .list
def eqD (S : Sto) (a b : D) : Option Bool :=
  match pd S 12 a, pd S 12 b with
  | some p, some q => some (PyData.eqv p q)
  | _, _ => match a, b with
    | .ref r, .ref q => (match S[r]?, S[q]? with
      | some (.dic _ false kx), some (.dic _ false ky) => if kx = [] ∧ ky = [] then some true else none
      | _, _ => none)
    | _, _ => none
def inD (S : Sto) (d : D) (ds : List D) : Option Bool :=
  match pd S 12 d, ds.mapM (pd S 12) with
  | some p, some qs => some (qs.any fun z => PyData.eqv z p)
  | _, _ => none
inductive Ty where
  | non | bl | int | str | tup | lst | dct
  deriving DecidableEq
def Ty.name : Ty → String
  | .non => "NoneType" | .bl => "bool" | .int => "int" | .str => "str" | .tup => "tuple" | .lst => "list" | .dct => "dict"
def Ty.le (a b : Ty) : Bool := match a, b with
  | .non, .non => true | .bl, .bl => true | .bl, .int => true | .int, .int => true | .str, .str => true | .tup, .tup => true | .lst, .lst => true | .dct, .dct => true
  | _, _ => false
inductive Cl where
  | ty (t : Ty)
  | own (c : Nat)
  | valErr
  deriving DecidableEq
inductive Op where
  | add | sub | mul | fdiv | mod | pow | neg | bnot
  | eq | ne | lt | le | gt | ge
  | isN | notN
  | inn | nin
  | ix | cutB | cutL | cutH | revL
  | attr (f : Nat)
  | tup | lst | dnT | disp1
  | len | int | str1 | isi (cs : List Cl) | listOf | tupOf | min2 | sortedD
  | append | clear | get2 | index | indexS | insert | remove | join | partition | split | upper | zfill
  deriving DecidableEq
mutual
inductive Tm where
  | var (i : Nat)
  | cst (d : D)
  | glob (g : Nat)
  | op (o : Op) (es : Tms)
  | and (a b : Tm)
  | or (a b : Tm)
  | chain (o1 o2 : Op) (a b c : Tm)
  | call (f : Nat) (es : Tms)
  | make (c : Nat) (es : Tms)
  | meth (m : Nat) (a : Tm) (es : Tms)
  | bm (o : Op) (a : Tm) (es : Tms)
  | comp (e : Tm) (i : Nat) (src : Src)
  | compX (e : Tm) (i : Nat) (src : Src)
  | compIf (e : Tm) (i : Nat) (src : Src) (t : Tm)
  | isE (cs : List Cl)
inductive Tms where
  | nil
  | cons (e : Tm) (r : Tms)
inductive Src where
  | seq (e : Tm)
  | rng1 (a : Tm)
  | rng3 (a b c : Tm)
end
mutual
inductive Cm where
  | asg (i : Nat) (e : Tm)
  | asgT (is : List Nat) (e : Tm)
  | setX (o i e : Tm)
  | setA (o : Tm) (f : Nat) (e : Tm)
  | ex (e : Tm)
  | ret (e : Tm)
  | retN
  | pass
  | brk
  | cont
  | ite (t : Tm) (a b : Cms)
  | whil (t : Tm) (b : Cms)
  | for1 (i : Nat) (src : Src) (b : Cms)
  | forT (is : List Nat) (src : Src) (b : Cms)
  | forV (i v : Nat) (b : Cms)
  | forI (i j v : Nat) (b : Cms)
  | rais (c : Nat)
  | tryC (b : Cm) (c ie : Nat) (hd : Cms)
inductive Cms where
  | nil
  | cons (s : Cm) (r : Cms)
end
/-- what the text's top says: constants, classes -/
structure Tab where
  con : Nat → Option D
  ini : Nat → Option Nat
  met : Nat → Nat → Option Nat
  sub : Nat → Nat → Bool
  exc : Nat → Bool
/-- a value's own class: a built-in, or one of the text's -/
def tyD (S : Sto) : D → Option (Ty ⊕ Nat)
  | .non => some (.inl .non)
  | .bl _ => some (.inl .bl)
  | .int _ => some (.inl .int)
  | .str _ => some (.inl .str)
  | .tup _ => some (.inl .tup)
  | .lis _ => none
  | .ref r => (match S[r]? with
    | some (.lst _) => some (.inl .lst)
    | some (.dic _ false _) => some (.inl .dct)
    | some (.ins k _) => some (.inr k)
    | _ => none)
def clsT (T : Tab) : Ty ⊕ Nat → Cl → Option Bool
  | .inl t, .ty n => some (t.le n)
  | .inr k, .own j => some (T.sub k j)
  | _, _ => none
def clsOf (T : Tab) (S : Sto) (d : D) (c : Cl) : Option Bool := (tyD S d).bind fun t => clsT T t c
def excIs (T : Tab) (k : Nat) : Cl → Bool
  | .own j => T.sub k j
  | .valErr => true
  | _ => false
end Mp
namespace Mp
open PySem
abbrev LIM : Nat := 16777216
abbrev OpF := List D → Sto → Option (D × Sto)
def oAdd : OpF
  | [.int i, .int j], S => some (.int (i + j), S)
  | [.str a, .str b], S => if a.length + b.length ≤ LIM then some (.str (a ++ b), S) else none
  | [.ref r, .ref q], S => (match S[r]?, S[q]? with
    | some (.lst a), some (.lst b) => if a.length + b.length ≤ LIM then some (.ref S.length, S ++ [.lst (a ++ b)]) else none
    | _, _ => none)
  | _, _ => none
def oSub : OpF
  | [.int i, .int j], S => some (.int (i - j), S)
  | _, _ => none
def oMul : OpF
  | [.int i, .int j], S => if i.natAbs < 2 ^ 64 ∨ j.natAbs < 2 ^ 64 then some (.int (i * j), S) else none
  | [.str a, .int k], S => if k.natAbs < 2 ^ 62 ∧ a.length * k.toNat ≤ LIM then some (.str (List.replicate k.toNat a).flatten, S) else none
  | _, _ => none
def oDiv : OpF
  | [.int i, .int j], S => if 0 < j ∧ j < 1073741824 then some (.int (i / j), S) else none
  | _, _ => none
def oMod : OpF
  | [.int i, .int j], S => if 0 < j then some (.int (i % j), S) else none
  | _, _ => none
def oPow : OpF
  | [.int i, .int j], S => if 0 ≤ j ∧ j ≤ 1000000 ∧ i.natAbs < 2 ^ 64 then some (.int (i ^ j.toNat), S) else none
  | _, _ => none
def oNeg : OpF
  | [.int i], S => some (.int (-i), S)
  | _, _ => none
def oNot : OpF
  | [.bl b], S => some (.bl (!b), S)
  | _, _ => none
def oEq : OpF
  | [a, b], S => (eqD S a b).map fun k => (.bl k, S)
  | _, _ => none
def oNe : OpF
  | [a, b], S => (eqD S a b).map fun k => (.bl (!k), S)
  | _, _ => none
def oCmp (p : Int → Int → Bool) : OpF
  | [.int i, .int j], S => some (.bl (p i j), S)
  | _, _ => none
/-- the texts of a tuple of texts -/
def strsOf : D → Option (List (List Nat))
  | .tup ds => ds.mapM fun d => match d with
    | .str s => some s
    | _ => none
  | _ => none
def lexL : List (List Nat) → List (List Nat) → Bool
  | [], [] => false
  | [], _ :: _ => true
  | _ :: _, [] => false
  | a :: r, b :: t => if a = b then lexL r t else decide (a < b)
def oLtT : OpF
  | [a, b], S => (match strsOf a, strsOf b with
    | some p, some q => some (.bl (lexL p q), S)
    | _, _ => none)
  | _, _ => none
def oIsN : OpF
  | [d], S => some (.bl (decide (d = .non)), S)
  | _, _ => none
def oNotN : OpF
  | [d], S => some (.bl (!decide (d = .non)), S)
  | _, _ => none
def oInStr (neg : Bool) : OpF
  | [.str [c], .str s], S => some (.bl (if neg then !decide (c ∈ s) else decide (c ∈ s)), S)
  | _, _ => none
def oInSeq (neg : Bool) : OpF
  | [d, x], S => (match seqD S x with
    | some ds => (inD S d ds).map fun k => (.bl (if neg then !k else k), S)
    | none => none)
  | _, _ => none
def oInDic (neg : Bool) : OpF
  | [k, .ref r], S => (match S[r]? with
    | some (.dic t _ kvs) => if keyOk t k then some (.bl (if neg then !(look kvs k).isSome else (look kvs k).isSome), S) else none
    | _ => none)
  | _, _ => none
def oIx : OpF
  | [.str s, .int i], S => if s.length ≤ LIM then (L2.atI s i).map fun c => (.str [c], S) else none
  | [.tup ds, .int i], S => (L2.atI ds i).map fun d => (d, S)
  | [x, .int i], S => (match seqD S x with
    | some ds => (L2.atI ds i).map fun d => (d, S)
    | none => none)
  | _, _ => none
def oIxD : OpF
  | [.ref r, k], S => (match S[r]? with
    | some (.dic t _ kvs) => if keyOk t k then (look kvs k).map fun d => (d, S) else none
    | _ => none)
  | _, _ => none
/-- a slice: of a text, of a list (a new one), of a tuple (never the whole) -/
def cutF (lo hi : Nat → Nat) : D → Sto → Option (D × Sto)
  | .str s, S => if s.length ≤ LIM then some (.str ((s.drop (lo s.length)).take (hi s.length - lo s.length)), S) else none
  | .tup ds, S => if ((ds.drop (lo ds.length)).take (hi ds.length - lo ds.length)).length < ds.length then some (.tup ((ds.drop (lo ds.length)).take (hi ds.length - lo ds.length)), S) else none
  | x, S => (match seqD S x with
    | some ds => some (.ref S.length, S ++ [.lst ((ds.drop (lo ds.length)).take (hi ds.length - lo ds.length))])
    | none => none)
def clip (i : Int) (n : Nat) : Nat := min i.toNat n
def oCutB : OpF
  | [d, .int i, .int j], S => if 0 ≤ i ∧ 0 ≤ j then cutF (clip i) (clip j) d S else none
  | _, _ => none
def oCutL : OpF
  | [d, .int i], S => if 0 ≤ i then cutF (clip i) id d S else none
  | _, _ => none
def oCutH : OpF
  | [d, .int j], S => if 0 ≤ j then cutF (fun _ => 0) (clip j) d S else none
  | _, _ => none
def oRevL : OpF
  | [x], S => (match seqD S x with
    | some ds => some (.ref S.length, S ++ [.lst ds.reverse])
    | none => none)
  | _, _ => none
def oAttr (f : Nat) : OpF
  | [.ref r], S => (match S[r]? with
    | some (.ins _ fs) => (lookF fs f).map fun d => (d, S)
    | _ => none)
  | _, _ => none
def oTup : OpF := fun ds S => if ds.length ≤ LIM then some (.tup ds, S) else none
def oLst : OpF := fun ds S => if ds.length ≤ LIM then some (.ref S.length, S ++ [.lst ds]) else none
def oNew (t : Bool) : OpF
  | [], S => some (.ref S.length, S ++ [.dic t false []])
  | _, _ => none
def oDisp : OpF
  | [k, v], S => if (key1 k).isSome then some (.ref S.length, S ++ [.dic false false [(k, v)]]) else none
  | _, _ => none
def oLen : OpF
  | [.str s], S => if s.length ≤ LIM then some (.int s.length, S) else none
  | [.tup ds], S => some (.int ds.length, S)
  | [x], S => (seqD S x).map fun ds => (.int ds.length, S)
  | _, _ => none
def oLenD : OpF
  | [.ref r], S => (match S[r]? with
    | some (.dic _ false kvs) => some (.int kvs.length, S)
    | _ => none)
  | _, _ => none
def oInt1 : OpF
  | [.int i], S => some (.int i, S)
  | [.bl b], S => some (.int (if b then 1 else 0), S)
  | _, _ => none
def oIntS : OpF
  | [.str s], S => if s.length ≤ 640 then (PySem.intText? ⟨s.toArray⟩).map fun n => (.int n, S) else none
  | _, _ => none
def oStr1 : OpF
  | [.int i], S => if 0 ≤ i ∧ i.natAbs.log2 < 1920 then some (.str (TL.numL i.toNat), S) else none
  | _, _ => none
def oIsi (T : Tab) (cs : List Cl) : OpF
  | [d], S => (match cs with
    | [c] => (clsOf T S d c).map fun k => (.bl k, S)
    | _ => none)
  | _, _ => none
def oListOf : OpF
  | [.tup ds], S => some (.ref S.length, S ++ [.lst ds])
  | [x], S => (match seqD S x with
    | some ds => some (.ref S.length, S ++ [.lst ds])
    | none => none)
  | _, _ => none
def oListOfD : OpF
  | [.ref r], S => (match S[r]? with
    | some (.dic true false kvs) => some (.ref S.length, S ++ [.lst (kvs.map (·.1))])
    | _ => none)
  | _, _ => none
def oTupOf : OpF
  | [.tup ds], S => some (.tup ds, S)
  | [x], S => (seqD S x).map fun ds => (.tup ds, S)
  | _, _ => none
def oMin2 : OpF
  | [.int i, .int j], S => some (.int (if j < i then j else i), S)
  | _, _ => none
def leK (a b : List (List Nat)) : Bool := !lexL b a
/-- sorted(d): the keys are tuples of texts, of one length, not empty -/
def oSortedD : OpF
  | [.ref r], S => (match S[r]? with
    | some (.dic true false kvs) => (match (kvs.map (·.1)).mapM strsOf with
      | some ks => if ks.all (fun k => k.length = 2) then some (.ref S.length, S ++ [.lst ((ks.mergeSort leK).map fun k => .tup (k.map .str))]) else none
      | none => none)
    | _ => none)
  | _, _ => none
def oAppend : OpF
  | [.ref r, d], S => (match S[r]? with
    | some (.lst ds) => if ds.length < LIM then some (.non, S.set r (.lst (ds ++ [d]))) else none
    | _ => none)
  | _, _ => none
def oClear : OpF
  | [.ref r], S => (match S[r]? with
    | some (.lst _) => some (.non, S.set r (.lst []))
    | _ => none)
  | _, _ => none
def oGet2 : OpF
  | [.ref r, k, x], S => (match S[r]? with
    | some (.dic t _ kvs) => if keyOk t k then some ((look kvs k).getD x, S) else none
    | _ => none)
  | _, _ => none
/-- the first place of an equal item -/
def placeD (S : Sto) (d : D) (ds : List D) : Option Nat :=
  match pd S 12 d, ds.mapM (pd S 12) with
  | some p, some qs => (let j := qs.findIdx fun z => PyData.eqv z p
    if j < qs.length then some j else none)
  | _, _ => none
def oIndex : OpF
  | [x, d], S => (match seqD S x with
    | some ds => (placeD S d ds).map fun j => (.int (j : Nat), S)
    | none => none)
  | _, _ => none
def oIndexS : OpF
  | [.str s, .str [c]], S => if s = [48, 49, 50, 51, 52, 53, 54, 55, 56, 57] ∧ c ∈ s then some (.int (s.idxOf c : Nat), S) else none
  | _, _ => none
def oInsert : OpF
  | [.ref r, .int i, d], S => (match S[r]? with
    | some (.lst ds) => if ds.length < LIM ∧ 0 ≤ i ∧ i.toNat ≤ ds.length then some (.non, S.set r (.lst (ds.take i.toNat ++ d :: ds.drop i.toNat))) else none
    | _ => none)
  | _, _ => none
def oRemove : OpF
  | [.ref r, .str x], S => (match S[r]? with
    | some (.lst ds) => (match ds.mapM (fun d => match d with
        | .str s => some s
        | _ => none) with
      | some ss => if x ∈ ss then some (.non, S.set r (.lst ((ss.erase x).map .str))) else none
      | none => none)
    | _ => none)
  | _, _ => none
def txts (ds : List D) : Option (List (List Nat)) := ds.mapM fun d => match d with
  | .str s => some s
  | _ => none
def joinF (sep : List Nat) (ds : List D) (S : Sto) : Option (D × Sto) :=
  match txts ds with
  | some ps => if (ps.map (·.length)).sum + ps.length * sep.length ≤ LIM then some (.str (TL.joinL sep ps), S) else none
  | none => none
def oJoin : OpF
  | [.str sep, .tup ds], S => joinF sep ds S
  | [.str sep, x], S => (match seqD S x with
    | some ds => joinF sep ds S
    | none => none)
  | _, _ => none
def small256 (s : List Nat) : Bool := s.all (· < 256)
def oPartition : OpF
  | [.str a, .str b], S => if b ≠ [] ∧ small256 b = true ∧ a.length ≤ LIM then (match TL.par b [] a with
    | some (x, y) => some (.tup [.str x, .str b, .str y], S)
    | none => some (.tup [.str a, .str [], .str []], S)) else none
  | _, _ => none
def oSplit : OpF
  | [.str a, .str b], S => if b ≠ [] ∧ small256 b = true ∧ a.length + 2 ≤ LIM then
      some (.ref S.length, S ++ [.lst ((TL.spl b 0 [] a).map .str)]) else none
  | _, _ => none
def upC (c : Nat) : Nat := if 97 ≤ c ∧ c ≤ 122 then c - 32 else c
def oUpper : OpF
  | [.str a], S => if a.all (· < 128) ∧ a.length ≤ 5592405 then some (.str (a.map upC), S) else none
  | _, _ => none
def oZfill : OpF
  | [.str a, .int k], S => if 0 ≤ k ∧ k ≤ 1000 ∧ a ≠ [] ∧ a.all (fun c => 48 ≤ c ∧ c ≤ 57) then some (.str (List.replicate (k.toNat - a.length) 48 ++ a), S) else none
  | _, _ => none
def orF (f g : OpF) : OpF := fun ds S => match f ds S with
  | some r => some r
  | none => g ds S
def opF (T : Tab) : Op → OpF
  | .add => oAdd | .sub => oSub | .mul => oMul | .fdiv => oDiv | .mod => oMod | .pow => oPow | .neg => oNeg | .bnot => oNot
  | .eq => oEq | .ne => oNe
  | .lt => orF (oCmp fun i j => decide (i < j)) oLtT
  | .le => oCmp fun i j => decide (i ≤ j)
  | .gt => oCmp fun i j => decide (j < i)
  | .ge => oCmp fun i j => decide (j ≤ i)
  | .isN => oIsN | .notN => oNotN
  | .inn => orF (oInStr false) (orF (oInSeq false) (oInDic false))
  | .nin => orF (oInStr true) (orF (oInSeq true) (oInDic true))
  | .ix => orF oIx oIxD | .cutB => oCutB | .cutL => oCutL | .cutH => oCutH | .revL => oRevL
  | .attr f => oAttr f
  | .tup => oTup | .lst => oLst | .dnT => oNew true | .disp1 => oDisp
  | .len => orF oLen oLenD | .int => orF oInt1 oIntS | .str1 => oStr1 | .isi cs => oIsi T cs
  | .listOf => orF oListOf oListOfD | .tupOf => oTupOf | .min2 => oMin2 | .sortedD => oSortedD
  | .append => oAppend | .clear => oClear | .get2 => oGet2 | .index => oIndex | .indexS => oIndexS | .insert => oInsert | .remove => oRemove
  | .join => oJoin | .partition => oPartition | .split => oSplit | .upper => oUpper | .zfill => oZfill
def opD (T : Tab) (o : Op) (ds : List D) (S : Sto) (Q : PQ) : Prop :=
  match opF T o ds S with
  | some (d, S') => Q d S'
  | none => False
theorem opD_mono {T : Tab} {o : Op} {ds : List D} {S : Sto} {Q Q' : PQ} (h : opD T o ds S Q) (hQ : ∀ d S', Q d S' → Q' d S') : opD T o ds S Q' := by
  unfold opD at h ⊢
  cases e : opF T o ds S with
  | none => rw [e] at h; exact h.elim
  | some p => rw [e] at h; exact hQ _ _ h
/-- what the receiver of a built-in method must be, ahead of the arguments -/
def tyOk (o : Op) (S : Sto) (x : D) : Bool := match o with
  | .append | .clear | .insert | .remove => (match x with
    | .ref r => (lstAt S r).isSome
    | _ => false)
  | .index => (seqD S x).isSome
  | .get2 => (match x with
    | .ref r => (match S[r]? with
      | some (.dic _ _ _) => true
      | _ => false)
    | _ => false)
  | .join | .partition | .split | .upper | .zfill | .indexS => (match x with
    | .str _ => true
    | _ => false)
  | _ => false
/-! ### what terms and commands do -/
abbrev Calls := Nat → List D → Sto → PQ → PX → Prop
/-- what is walked: the items, and what must stand at each turn -/
structure Wk where
  items : List D
  stand : Sto → Prop
/-- what is walked without a lock: a list at its place (it must stand), a tuple, a text -/
def wkOf (S : Sto) : D → Option Wk
  | .tup ds => some ⟨ds, fun _ => True⟩
  | .str s => some ⟨s.map fun c => .str [c], fun _ => True⟩
  | x => (seqD S x).map fun ds => ⟨ds, fun S' => seqD S' x = some ds⟩
def rngItems (i c : Int) (n : Nat) : List D := (List.range n).map fun k => .int (i + (k : Nat) * c)
/-- the number of turns of range(i, j, c), c above 0 -/
def rngN (i j c : Int) : Nat := ((j - i + c - 1) / c).toNat
/-- a comprehension's turns; the new list stands at r -/
def compN (r : Nat) (stand : Sto → Prop) (turn : D → Sto → (Option D → Sto → Prop) → Prop) (k : Sto → Prop) : List D → List D → Sto → Prop
  | [], acc, S => stand S ∧ S[r]? = some (.lst acc) ∧ k S
  | x :: xs, acc, S => stand S ∧ S[r]? = some (.lst acc) ∧ turn x S fun o S' => match o with
    | some d => S'[r]? = some (.lst acc) ∧ acc.length < LIM ∧ compN r stand turn k xs (acc ++ [d]) (S'.set r (.lst (acc ++ [d])))
    | none => compN r stand turn k xs acc S'
structure Kt where
  nx : Env → Sto → Prop
  rt : PQ
  bk : Env → Sto → Prop
  ct : Env → Sto → Prop
/-- behind a walk over the locked dict at r -/
def lkK (r : Nat) (t : Bool) (kvs : List (D × D)) (K : Kt) : Kt where
  nx := fun ρ S => S[r]? = some (.dic t true kvs) ∧ K.nx ρ (S.set r (.dic t false kvs))
  rt := fun d S => S[r]? = some (.dic t true kvs) ∧ K.rt d (S.set r (.dic t false kvs))
  bk := fun ρ S => S[r]? = some (.dic t true kvs) ∧ K.bk ρ (S.set r (.dic t false kvs))
  ct := fun ρ S => S[r]? = some (.dic t true kvs) ∧ K.ct ρ (S.set r (.dic t false kvs))
/-- behind an except suite its name is gone -/
def hdK (ie : Nat) (K : Kt) : Kt where
  nx := fun ρ S => K.nx (ρ.set ie none) S
  rt := K.rt
  bk := fun ρ S => K.bk (ρ.set ie none) S
  ct := fun ρ S => K.ct (ρ.set ie none) S
def whN (wt : Env → Sto → (Bool → Sto → Prop) → Prop) (wb : Env → Sto → Kt → Prop) (K : Kt) : Nat → Env → Sto → Prop
  | 0, _, _ => False
  | n + 1, ρ, S => wt ρ S fun b S1 => if b = true then wb ρ S1 { nx := whN wt wb K n, rt := K.rt, bk := K.nx, ct := whN wt wb K n } else K.nx ρ S1
def foN (asg : D → Env → Option Env) (stand : Sto → Prop) (wb : Env → Sto → Kt → Prop) (K : Kt) : List D → Env → Sto → Prop
  | [], ρ, S => stand S ∧ K.nx ρ S
  | x :: xs, ρ, S => stand S ∧ match asg x ρ with
    | some ρ' => wb ρ' S { nx := foN asg stand wb K xs, rt := K.rt, bk := K.nx, ct := foN asg stand wb K xs }
    | none => False
def asg1 (i : Nat) (x : D) (ρ : Env) : Option Env := some (ρ.set i (some x))
def asgs : List Nat → List D → Env → Option Env
  | [], [], ρ => some ρ
  | i :: is, d :: ds, ρ => asgs is ds (ρ.set i (some d))
  | _, _, _ => none
def asgT (is : List Nat) (x : D) (ρ : Env) : Option Env :=
  match x with
  | .tup ds => asgs is ds ρ
  | _ => none
section
variable (T : Tab) (C : Calls)
def clsE (hx : Option Nat) (cs : List Cl) : Option Bool := match hx with
  | some k => some (cs.any (excIs T k))
  | none => none
mutual
def wpE (hx : Option Nat) : Tm → Env → Sto → PQ → PX → Prop
  | .var i, ρ, S, Q, _ => match ρ[i]? with
    | some (some d) => Q d S
    | _ => False
  | .cst d, _, S, Q, _ => Q d S
  | .glob g, _, S, Q, _ => match T.con g with
    | some d => Q d S
    | none => False
  | .op o es, ρ, S, Q, EX => wpEs hx es ρ S (fun ds S1 => opD T o ds S1 Q) EX
  | .and a b, ρ, S, Q, EX => wpE hx a ρ S (fun d S1 => match d with
    | .bl true => wpE hx b ρ S1 Q EX
    | .bl false => Q (.bl false) S1
    | _ => False) EX
  | .or a b, ρ, S, Q, EX => wpE hx a ρ S (fun d S1 => match d with
    | .bl true => Q (.bl true) S1
    | .bl false => wpE hx b ρ S1 Q EX
    | _ => False) EX
  | .chain o1 o2 a b c, ρ, S, Q, EX => wpE hx a ρ S (fun x S1 => wpE hx b ρ S1 (fun y S2 => opD T o1 [x, y] S2 fun z S3 => match z with
    | .bl true => wpE hx c ρ S3 (fun v S4 => opD T o2 [y, v] S4 Q) EX
    | .bl false => Q (.bl false) S3
    | _ => False) EX) EX
  | .call f es, ρ, S, Q, EX => wpEs hx es ρ S (fun ds S1 => C f ds S1 Q EX) EX
  | .make c es, ρ, S, Q, EX => wpEs hx es ρ S (fun ds S1 => match T.ini c with
    | some f => C f (.ref S1.length :: ds) (S1 ++ [.ins c []]) (fun v S2 => v = .non ∧ Q (.ref S1.length) S2) fun _ _ => False
    | none => ds = [] ∧ Q (.ref S1.length) (S1 ++ [.ins c []])) EX
  | .meth m a es, ρ, S, Q, EX => wpE hx a ρ S (fun x S1 => match x with
    | .ref r => (match S1[r]? with
      | some (.ins c fs) => (match T.met c m with
        | some f => lookF fs m = none ∧ wpEs hx es ρ S1 (fun ds S2 => C f (.ref r :: ds) S2 Q fun _ _ => False) EX
        | none => False)
      | _ => False)
    | _ => False) EX
  | .bm o a es, ρ, S, Q, EX => wpE hx a ρ S (fun x S1 => tyOk o S1 x = true ∧ wpEs hx es ρ S1 (fun ds S2 => opD T o (x :: ds) S2 Q) EX) EX
  | .comp e i src, ρ, S, Q, EX => wpI hx src ρ S (fun w S1 => compN S1.length w.stand
      (fun x S2 k => wpE hx e (ρ.set i (some x)) S2 (fun d S3 => k (some d) S3) fun _ _ => False)
      (fun S2 => Q (.ref S1.length) S2) w.items [] (S1 ++ [.lst []])) EX
  | .compX e i src, ρ, S, Q, EX => wpI hx src ρ S (fun w S1 => compN S1.length w.stand
      (fun x S2 k => wpE hx e (ρ.set i (some x)) S2 (fun d S3 => k (some d) S3) EX)
      (fun S2 => Q (.ref S1.length) S2) w.items [] (S1 ++ [.lst []])) EX
  | .compIf e i src t, ρ, S, Q, EX => wpI hx src ρ S (fun w S1 => compN S1.length w.stand
      (fun x S2 k => wpE hx t (ρ.set i (some x)) S2 (fun z S3 => match z with
        | .bl true => wpE hx e (ρ.set i (some x)) S3 (fun d S4 => k (some d) S4) fun _ _ => False
        | .bl false => k none S3
        | _ => False) fun _ _ => False)
      (fun S2 => Q (.ref S1.length) S2) w.items [] (S1 ++ [.lst []])) EX
  | .isE cs, _, S, Q, _ => match clsE T hx cs with
    | some b => Q (.bl b) S
    | none => False
def wpEs (hx : Option Nat) : Tms → Env → Sto → (List D → Sto → Prop) → PX → Prop
  | .nil, _, S, Q, _ => Q [] S
  | .cons e r, ρ, S, Q, EX => wpE hx e ρ S (fun d S1 => wpEs hx r ρ S1 (fun ds S2 => Q (d :: ds) S2) EX) EX
def wpI (hx : Option Nat) : Src → Env → Sto → (Wk → Sto → Prop) → PX → Prop
  | .seq e, ρ, S, Q, EX => wpE hx e ρ S (fun x S1 => match wkOf S1 x with
    | some w => Q w S1
    | none => False) EX
  | .rng1 a, ρ, S, Q, EX => wpE hx a ρ S (fun x S1 => match x with
    | .int j => -(2 ^ 62) ≤ j ∧ j < 2 ^ 62 ∧ Q ⟨rngItems 0 1 j.toNat, fun _ => True⟩ S1
    | _ => False) EX
  | .rng3 a b c, ρ, S, Q, EX => wpE hx a ρ S (fun x S1 => wpE hx b ρ S1 (fun y S2 => wpE hx c ρ S2 (fun z S3 => match x, y, z with
    | .int i, .int j, .int c => (-(2 ^ 60) ≤ i ∧ i < 2 ^ 60 ∧ -(2 ^ 60) ≤ j ∧ j < 2 ^ 60 ∧ 0 < c ∧ c < 1073741824) ∧ Q ⟨rngItems i c (rngN i j c), fun _ => True⟩ S3
    | _, _, _ => False) EX) EX) EX
end
/-- x[y] = v -/
def setW (x y v : D) (S : Sto) (Q : Sto → Prop) : Prop := match x with
  | .ref r => (match S[r]? with
    | some (.lst ds) => (match y with
      | .int k => (match L2.ixN ds.length k with
        | some j => Q (S.set r (.lst (ds.set j v)))
        | none => False)
      | _ => False)
    | some (.dic t false kvs) => keyOk t y = true ∧ kvs.length < LIM ∧ Q (S.set r (.dic t false (put kvs y v)))
    | _ => False)
  | _ => False
theorem setW_mono {x y v : D} {S : Sto} {Q Q' : Sto → Prop} (hQ : ∀ S', Q S' → Q' S') (h : setW x y v S Q) : setW x y v S Q' := by
  unfold setW at h ⊢
  split at h
  · split at h
    · split at h
      · split at h
        · exact hQ _ h
        · exact h.elim
      · exact h.elim
    · exact ⟨h.1, h.2.1, hQ _ h.2.2⟩
    · exact h.elim
  · exact h.elim
/-- a dict that is not walked -/
def dicAt (S : Sto) : D → Option (Nat × Bool × List (D × D))
  | .ref r => (match S[r]? with
    | some (.dic t false kvs) => some (r, t, kvs)
    | _ => none)
  | _ => none
/-- a test -/
def wpT (hx : Option Nat) (e : Tm) (ρ : Env) (S : Sto) (Q : Bool → Sto → Prop) (EX : PX) : Prop :=
  wpE T C hx e ρ S (fun d S1 => match d with
    | .bl b => Q b S1
    | _ => False) EX
mutual
def wpC (hx : Option Nat) : Cm → Env → Sto → Kt → PX → Prop
  | .asg i e, ρ, S, K, EX => wpE T C hx e ρ S (fun d S1 => K.nx (ρ.set i (some d)) S1) EX
  | .asgT is e, ρ, S, K, EX => wpE T C hx e ρ S (fun d S1 => match asgT is d ρ with
    | some ρ' => K.nx ρ' S1
    | none => False) EX
  | .setX o i e, ρ, S, K, EX => wpE T C hx e ρ S (fun v S1 => wpE T C hx o ρ S1 (fun x S2 => wpE T C hx i ρ S2 (fun y S3 => setW x y v S3 fun S4 => K.nx ρ S4) EX) EX) EX
  | .setA o f e, ρ, S, K, EX => wpE T C hx e ρ S (fun v S1 => wpE T C hx o ρ S1 (fun x S2 => match x with
    | .ref r => (match S2[r]? with
      | some (.ins c fs) => fs.length < 1000 ∧ K.nx ρ (S2.set r (.ins c (putN f v fs)))
      | _ => False)
    | _ => False) EX) EX
  | .ex e, ρ, S, K, EX => wpE T C hx e ρ S (fun _ S1 => K.nx ρ S1) EX
  | .ret e, ρ, S, K, EX => wpE T C hx e ρ S K.rt EX
  | .retN, _, S, K, _ => K.rt .non S
  | .pass, ρ, S, K, _ => K.nx ρ S
  | .brk, ρ, S, K, _ => K.bk ρ S
  | .cont, ρ, S, K, _ => K.ct ρ S
  | .ite t a b, ρ, S, K, EX => wpT T C hx t ρ S (fun k S1 => if k = true then wpCs hx a ρ S1 K EX else wpCs hx b ρ S1 K EX) EX
  | .whil t b, ρ, S, K, EX => ∃ n, whN (fun ρ S Q => wpT T C hx t ρ S Q EX) (fun ρ S K => wpCs hx b ρ S K EX) K n ρ S
  | .for1 i src b, ρ, S, K, EX => wpI T C hx src ρ S (fun w S1 => foN (asg1 i) w.stand (fun ρ S K => wpCs hx b ρ S K EX) K w.items ρ S1) EX
  | .forT is src b, ρ, S, K, EX => wpI T C hx src ρ S (fun w S1 => foN (asgT is) w.stand (fun ρ S K => wpCs hx b ρ S K EX) K w.items ρ S1) EX
  | .forV i v b, ρ, S, K, EX => match ρ[v]? with
    | some (some x) => (match dicAt S x with
      | some (r, t, kvs) => foN (asg1 i) (fun S' => S'[r]? = some (.dic t true kvs)) (fun ρ S K => wpCs hx b ρ S K fun _ _ => False) (lkK r t kvs K) (kvs.map (·.1)) ρ (S.set r (.dic t true kvs))
      | none => (match wkOf S x with
        | some w => foN (asg1 i) w.stand (fun ρ S K => wpCs hx b ρ S K EX) K w.items ρ S
        | none => False))
    | _ => False
  | .forI i j v b, ρ, S, K, EX => match ρ[v]? with
    | some (some x) => (match dicAt S x with
      | some (r, true, kvs) => foN (asgT [i, j]) (fun S' => S'[r]? = some (.dic true true kvs)) (fun ρ S K => wpCs hx b ρ S K fun _ _ => False) (lkK r true kvs K) (kvs.map fun p => .tup [p.1, p.2]) ρ (S.set r (.dic true true kvs))
      | _ => False)
    | _ => False
  | .rais c, _, S, _, EX => EX c S
  | .tryC b c ie hd, ρ, S, K, EX => wpC hx b ρ S K (fun k S1 => if T.sub k c = true then wpCs (some k) hd (ρ.set ie none) S1 (hdK ie K) (fun _ _ => False) else EX k S1)
def wpCs (hx : Option Nat) : Cms → Env → Sto → Kt → PX → Prop
  | .nil, ρ, S, K, _ => K.nx ρ S
  | .cons s r, ρ, S, K, EX => wpC hx s ρ S { K with nx := fun ρ' S' => wpCs hx r ρ' S' K EX } EX
end
end
/-- a def: how many parameters, how many names, its body -/
structure Df where
  np : Nat
  nn : Nat
  body : Cms
def wpCall (T : Tab) (F : Nat → Option Df) : Nat → Calls
  | 0, _, _, _, _, _ => False
  | n + 1, f, ds, S, Q, EX => match F f with
    | some d => ds.length = d.np ∧ wpCs T (wpCall T F n) none d.body (ds.map some ++ List.replicate (d.nn - d.np) none) S { nx := fun _ S' => Q .non S', rt := Q, bk := fun _ _ => False, ct := fun _ _ => False } EX
    | none => False
end Mp
namespace Mp
open PySem
def MonoC (C : Calls) : Prop := ∀ f ds S (Q Q' : PQ) (EX EX' : PX), (∀ d S', Q d S' → Q' d S') → (∀ k S', EX k S' → EX' k S') → C f ds S Q EX → C f ds S Q' EX'
theorem compN_mono {r : Nat} {stand : Sto → Prop} {turn turn' : D → Sto → (Option D → Sto → Prop) → Prop} {k k' : Sto → Prop} (ht : ∀ x S (q q' : Option D → Sto → Prop), (∀ o S', q o S' → q' o S') → turn x S q → turn' x S q') (hk : ∀ S, k S → k' S) :
    ∀ (xs acc : List D) (S : Sto), compN r stand turn k xs acc S → compN r stand turn' k' xs acc S
  | [], _, _, h => ⟨h.1, h.2.1, hk _ h.2.2⟩
  | x :: xs, acc, S, h => by
    refine ⟨h.1, h.2.1, ht x S _ _ (fun o S' q => ?_) h.2.2⟩
    cases o with
    | some d => exact ⟨q.1, q.2.1, compN_mono ht hk xs _ _ q.2.2⟩
    | none => exact compN_mono ht hk xs _ _ q
structure Kt.Le (K K' : Kt) : Prop where
  nx : ∀ ρ S, K.nx ρ S → K'.nx ρ S
  rt : ∀ d S, K.rt d S → K'.rt d S
  bk : ∀ ρ S, K.bk ρ S → K'.bk ρ S
  ct : ∀ ρ S, K.ct ρ S → K'.ct ρ S
theorem Kt.Le.lk {K K' : Kt} (h : K.Le K') {r : Nat} {t : Bool} {kvs : List (D × D)} : (lkK r t kvs K).Le (lkK r t kvs K') :=
  ⟨fun _ _ z => ⟨z.1, h.nx _ _ z.2⟩, fun _ _ z => ⟨z.1, h.rt _ _ z.2⟩, fun _ _ z => ⟨z.1, h.bk _ _ z.2⟩, fun _ _ z => ⟨z.1, h.ct _ _ z.2⟩⟩
theorem whN_mono {wt wt' : Env → Sto → (Bool → Sto → Prop) → Prop} {wb wb' : Env → Sto → Kt → Prop} (ht : ∀ ρ S (q q' : Bool → Sto → Prop), (∀ b S', q b S' → q' b S') → wt ρ S q → wt' ρ S q')
    (hb : ∀ ρ S K K', Kt.Le K K' → wb ρ S K → wb' ρ S K') {K K' : Kt} (hK : K.Le K') : ∀ n ρ S, whN wt wb K n ρ S → whN wt' wb' K' n ρ S
  | 0, _, _, h => h
  | n + 1, ρ, S, h => by
    refine ht ρ S _ _ (fun b S' q => ?_) h
    cases b with
    | true =>
      refine hb _ _ _ _ ?_ q
      exact ⟨fun _ _ z => whN_mono ht hb hK n _ _ z, hK.rt, hK.nx, fun _ _ z => whN_mono ht hb hK n _ _ z⟩
    | false => exact hK.nx _ _ q
theorem foN_mono {asg : D → Env → Option Env} {stand : Sto → Prop} {wb wb' : Env → Sto → Kt → Prop} (hb : ∀ ρ S K K', Kt.Le K K' → wb ρ S K → wb' ρ S K') {K K' : Kt} (hK : K.Le K') :
    ∀ xs ρ S, foN asg stand wb K xs ρ S → foN asg stand wb' K' xs ρ S
  | [], _, _, h => ⟨h.1, hK.nx _ _ h.2⟩
  | x :: xs, ρ, S, h => by
    refine ⟨h.1, ?_⟩
    have h2 := h.2
    cases e : asg x ρ with
    | none => rw [e] at h2; exact h2.elim
    | some ρ' =>
      rw [e] at h2
      refine hb _ _ _ _ ?_ h2
      exact ⟨fun _ _ z => foN_mono hb hK xs _ _ z, hK.rt, hK.nx, fun _ _ z => foN_mono hb hK xs _ _ z⟩
section
variable {T : Tab} {C : Calls} (hC : MonoC C)
include hC
mutual
theorem wpE_mono {hx : Option Nat} : ∀ (e : Tm) (ρ : Env) (S : Sto) (Q Q' : PQ) (EX EX' : PX), (∀ d S', Q d S' → Q' d S') → (∀ k S', EX k S' → EX' k S') → wpE T C hx e ρ S Q EX → wpE T C hx e ρ S Q' EX'
  | .var i, ρ, S, Q, Q', EX, EX', hQ, hX, h => by
    simp only [wpE] at h ⊢
    split at h
    · exact hQ _ _ h
    · exact h.elim
  | .cst d, ρ, S, Q, Q', EX, EX', hQ, hX, h => hQ _ _ h
  | .glob g, ρ, S, Q, Q', EX, EX', hQ, hX, h => by
    simp only [wpE] at h ⊢
    split at h
    · exact hQ _ _ h
    · exact h.elim
  | .op o es, ρ, S, Q, Q', EX, EX', hQ, hX, h => wpEs_mono es ρ S _ _ EX EX' (fun ds S1 q => opD_mono q hQ) hX h
  | .and a b, ρ, S, Q, Q', EX, EX', hQ, hX, h => by
    refine wpE_mono a ρ S _ _ EX EX' (fun d S1 q => ?_) hX h
    split at q
    · exact wpE_mono b ρ S1 _ _ EX EX' hQ hX q
    · exact hQ _ _ q
    · exact q.elim
  | .or a b, ρ, S, Q, Q', EX, EX', hQ, hX, h => by
    refine wpE_mono a ρ S _ _ EX EX' (fun d S1 q => ?_) hX h
    split at q
    · exact hQ _ _ q
    · exact wpE_mono b ρ S1 _ _ EX EX' hQ hX q
    · exact q.elim
  | .chain o1 o2 a b c, ρ, S, Q, Q', EX, EX', hQ, hX, h => by
    refine wpE_mono a ρ S _ _ EX EX' (fun x S1 q => ?_) hX h
    refine wpE_mono b ρ S1 _ _ EX EX' (fun y S2 q => ?_) hX q
    refine opD_mono q fun z S3 q => ?_
    split at q
    · exact wpE_mono c ρ S3 _ _ EX EX' (fun v S4 q => opD_mono q hQ) hX q
    · exact hQ _ _ q
    · exact q.elim
  | .call f es, ρ, S, Q, Q', EX, EX', hQ, hX, h => wpEs_mono es ρ S _ _ EX EX' (fun ds S1 q => hC _ _ _ _ _ _ _ hQ hX q) hX h
  | .make c es, ρ, S, Q, Q', EX, EX', hQ, hX, h => by
    refine wpEs_mono es ρ S _ _ EX EX' (fun ds S1 q => ?_) hX h
    cases e : T.ini c with
    | some f => rw [e] at q; exact hC _ _ _ _ _ _ _ (fun d S' z => ⟨z.1, hQ _ _ z.2⟩) (fun _ _ z => z) q
    | none => rw [e] at q; exact ⟨q.1, hQ _ _ q.2⟩
  | .meth m a es, ρ, S, Q, Q', EX, EX', hQ, hX, h => by
    refine wpE_mono a ρ S _ _ EX EX' (fun x S1 q => ?_) hX h
    cases x with
    | ref r =>
      simp only at q ⊢
      split at q
      · split at q
        · exact ⟨q.1, wpEs_mono es ρ S1 _ _ EX EX' (fun ds S2 q => hC _ _ _ _ _ _ _ hQ (fun _ _ z => z) q) hX q.2⟩
        · exact q.elim
      · exact q.elim
    | _ => exact q.elim
  | .bm o a es, ρ, S, Q, Q', EX, EX', hQ, hX, h => by
    refine wpE_mono a ρ S _ _ EX EX' (fun x S1 q => ?_) hX h
    exact ⟨q.1, wpEs_mono es ρ S1 _ _ EX EX' (fun ds S2 z => opD_mono z hQ) hX q.2⟩
  | .comp e i src, ρ, S, Q, Q', EX, EX', hQ, hX, h => by
    refine wpI_mono src ρ S _ _ EX EX' (fun w S1 q => ?_) hX h
    exact compN_mono (fun x S2 k k' hk z => wpE_mono e _ S2 _ _ _ _ (fun d S3 y => hk _ _ y) (fun _ _ y => y) z) (fun S2 z => hQ _ _ z) _ _ _ q
  | .compX e i src, ρ, S, Q, Q', EX, EX', hQ, hX, h => by
    refine wpI_mono src ρ S _ _ EX EX' (fun w S1 q => ?_) hX h
    exact compN_mono (fun x S2 k k' hk z => wpE_mono e _ S2 _ _ _ _ (fun d S3 y => hk _ _ y) hX z) (fun S2 z => hQ _ _ z) _ _ _ q
  | .compIf e i src t, ρ, S, Q, Q', EX, EX', hQ, hX, h => by
    refine wpI_mono src ρ S _ _ EX EX' (fun w S1 q => ?_) hX h
    refine compN_mono (fun x S2 k k' hk z => ?_) (fun S2 z => hQ _ _ z) _ _ _ q
    refine wpE_mono t _ S2 _ _ _ _ (fun d S3 y => ?_) (fun _ _ y => y) z
    split at y
    · exact wpE_mono e _ S3 _ _ _ _ (fun d S4 y => hk _ _ y) (fun _ _ y => y) y
    · exact hk _ _ y
    · exact y.elim
  | .isE cs, ρ, S, Q, Q', EX, EX', hQ, hX, h => by
    simp only [wpE] at h ⊢
    split at h
    · exact hQ _ _ h
    · exact h.elim
theorem wpEs_mono {hx : Option Nat} : ∀ (es : Tms) (ρ : Env) (S : Sto) (Q Q' : List D → Sto → Prop) (EX EX' : PX), (∀ d S', Q d S' → Q' d S') → (∀ k S', EX k S' → EX' k S') → wpEs T C hx es ρ S Q EX → wpEs T C hx es ρ S Q' EX'
  | .nil, ρ, S, Q, Q', EX, EX', hQ, hX, h => hQ _ _ h
  | .cons e r, ρ, S, Q, Q', EX, EX', hQ, hX, h => by
    refine wpE_mono e ρ S _ _ EX EX' (fun d S1 q => ?_) hX h
    exact wpEs_mono r ρ S1 _ _ EX EX' (fun ds S2 z => hQ _ _ z) hX q
theorem wpI_mono {hx : Option Nat} : ∀ (es : Src) (ρ : Env) (S : Sto) (Q Q' : Wk → Sto → Prop) (EX EX' : PX), (∀ d S', Q d S' → Q' d S') → (∀ k S', EX k S' → EX' k S') → wpI T C hx es ρ S Q EX → wpI T C hx es ρ S Q' EX'
  | .seq e, ρ, S, Q, Q', EX, EX', hQ, hX, h => by
    refine wpE_mono e ρ S _ _ EX EX' (fun x S1 q => ?_) hX h
    split at q
    · exact hQ _ _ q
    · exact q.elim
  | .rng1 a, ρ, S, Q, Q', EX, EX', hQ, hX, h => by
    refine wpE_mono a ρ S _ _ EX EX' (fun x S1 q => ?_) hX h
    cases x with
    | int j => exact ⟨q.1, q.2.1, hQ _ _ q.2.2⟩
    | _ => exact q.elim
  | .rng3 a b c, ρ, S, Q, Q', EX, EX', hQ, hX, h => by
    refine wpE_mono a ρ S _ _ EX EX' (fun x S1 q => ?_) hX h
    refine wpE_mono b ρ S1 _ _ EX EX' (fun y S2 q => ?_) hX q
    refine wpE_mono c ρ S2 _ _ EX EX' (fun z S3 q => ?_) hX q
    split at q
    · exact ⟨q.1, hQ _ _ q.2⟩
    · exact q.elim
end
theorem wpT_mono {hx : Option Nat} {e : Tm} {ρ : Env} {S : Sto} {Q Q' : Bool → Sto → Prop} {EX EX' : PX} (hQ : ∀ d S', Q d S' → Q' d S') (hX : ∀ k S', EX k S' → EX' k S') (h : wpT T C hx e ρ S Q EX) : wpT T C hx e ρ S Q' EX' := by
  refine wpE_mono hC e ρ S _ _ EX EX' (fun x S1 q => ?_) hX h
  cases x with
  | bl b => exact hQ _ _ q
  | _ => exact q.elim
mutual
theorem wpC_mono {hx : Option Nat} : ∀ (s : Cm) (ρ : Env) (S : Sto) (K K' : Kt) (EX EX' : PX), K.Le K' → (∀ k S', EX k S' → EX' k S') → wpC T C hx s ρ S K EX → wpC T C hx s ρ S K' EX'
  | .asg i e, ρ, S, K, K', EX, EX', hK, hX, h => wpE_mono hC e ρ S _ _ EX EX' (fun d S1 q => hK.nx _ _ q) hX h
  | .asgT is e, ρ, S, K, K', EX, EX', hK, hX, h => by
    refine wpE_mono hC e ρ S _ _ EX EX' (fun d S1 q => ?_) hX h
    cases e : asgT is d ρ with
    | some ρ' => rw [e] at q; exact hK.nx _ _ q
    | none => rw [e] at q; exact q.elim
  | .setX o i e, ρ, S, K, K', EX, EX', hK, hX, h => by
    refine wpE_mono hC e ρ S _ _ EX EX' (fun d S1 q => ?_) hX h
    refine wpE_mono hC o ρ S1 _ _ EX EX' (fun x S2 q => ?_) hX q
    exact wpE_mono hC i ρ S2 _ _ EX EX' (fun y S3 q => setW_mono (fun S4 z => hK.nx _ _ z) q) hX q
  | .setA o f e, ρ, S, K, K', EX, EX', hK, hX, h => by
    refine wpE_mono hC e ρ S _ _ EX EX' (fun v S1 q => ?_) hX h
    refine wpE_mono hC o ρ S1 _ _ EX EX' (fun x S2 q => ?_) hX q
    split at q
    · split at q
      · exact ⟨q.1, hK.nx _ _ q.2⟩
      · exact q.elim
    · exact q.elim
  | .ex e, ρ, S, K, K', EX, EX', hK, hX, h => wpE_mono hC e ρ S _ _ EX EX' (fun d S1 q => hK.nx _ _ q) hX h
  | .ret e, ρ, S, K, K', EX, EX', hK, hX, h => wpE_mono hC e ρ S _ _ EX EX' hK.rt hX h
  | .retN, ρ, S, K, K', EX, EX', hK, hX, h => hK.rt _ _ h
  | .pass, ρ, S, K, K', EX, EX', hK, hX, h => hK.nx _ _ h
  | .brk, ρ, S, K, K', EX, EX', hK, hX, h => hK.bk _ _ h
  | .cont, ρ, S, K, K', EX, EX', hK, hX, h => hK.ct _ _ h
  | .ite t a b, ρ, S, K, K', EX, EX', hK, hX, h => by
    refine wpT_mono hC (fun k S1 q => ?_) hX h
    cases k with
    | true => exact wpCs_mono a ρ S1 K K' EX EX' hK hX q
    | false => exact wpCs_mono b ρ S1 K K' EX EX' hK hX q
  | .whil t b, ρ, S, K, K', EX, EX', hK, hX, h => by
    obtain ⟨n, h⟩ := h
    refine ⟨n, whN_mono (fun ρ S q q' hq z => ?_) (fun ρ S K K' hK z => wpCs_mono b ρ S K K' EX EX' hK hX z) hK n ρ S h⟩
    exact wpT_mono hC hq hX z
  | .for1 i src b, ρ, S, K, K', EX, EX', hK, hX, h => by
    refine wpI_mono hC src ρ S _ _ EX EX' (fun w S1 q => ?_) hX h
    exact foN_mono (fun ρ S K K' hK z => wpCs_mono b ρ S K K' EX EX' hK hX z) hK _ _ _ q
  | .forT is src b, ρ, S, K, K', EX, EX', hK, hX, h => by
    refine wpI_mono hC src ρ S _ _ EX EX' (fun w S1 q => ?_) hX h
    exact foN_mono (fun ρ S K K' hK z => wpCs_mono b ρ S K K' EX EX' hK hX z) hK _ _ _ q
  | .forV i v b, ρ, S, K, K', EX, EX', hK, hX, h => by
    simp only [wpC] at h ⊢
    split at h
    · split at h
      · exact foN_mono (fun ρ S K K' hK z => wpCs_mono b ρ S K K' _ _ hK (fun _ _ z => z) z) (Kt.Le.lk hK) _ _ _ h
      · split at h
        · exact foN_mono (fun ρ S K K' hK z => wpCs_mono b ρ S K K' EX EX' hK hX z) hK _ _ _ h
        · exact h.elim
    · exact h.elim
  | .forI i j v b, ρ, S, K, K', EX, EX', hK, hX, h => by
    simp only [wpC] at h ⊢
    split at h
    · split at h
      · exact foN_mono (fun ρ S K K' hK z => wpCs_mono b ρ S K K' _ _ hK (fun _ _ z => z) z) (Kt.Le.lk hK) _ _ _ h
      · exact h.elim
    · exact h.elim
  | .rais c, ρ, S, K, K', EX, EX', hK, hX, h => hX _ _ h
  | .tryC b c ie hd, ρ, S, K, K', EX, EX', hK, hX, h => by
    refine wpC_mono b ρ S K K' _ _ hK (fun k S1 q => ?_) h
    split at q
    · rename_i e; rw [if_pos e]; exact wpCs_mono hd _ S1 (hdK ie K) (hdK ie K') _ _ ⟨fun _ _ => hK.nx _ _, hK.rt, fun _ _ => hK.bk _ _, fun _ _ => hK.ct _ _⟩ (fun _ _ z => z) q
    · rename_i e; rw [if_neg e]; exact hX _ _ q
theorem wpCs_mono {hx : Option Nat} : ∀ (s : Cms) (ρ : Env) (S : Sto) (K K' : Kt) (EX EX' : PX), K.Le K' → (∀ k S', EX k S' → EX' k S') → wpCs T C hx s ρ S K EX → wpCs T C hx s ρ S K' EX'
  | .nil, ρ, S, K, K', EX, EX', hK, hX, h => hK.nx _ _ h
  | .cons s r, ρ, S, K, K', EX, EX', hK, hX, h => by
    refine wpC_mono s ρ S _ _ EX EX' ?_ hX h
    exact ⟨fun ρ' S' z => wpCs_mono r ρ' S' K K' EX EX' hK hX z, hK.rt, hK.bk, hK.ct⟩
end
end
theorem wpCall_mono (T : Tab) (F : Nat → Option Df) : ∀ n, MonoC (wpCall T F n)
  | 0 => fun _ _ _ _ _ _ _ _ _ h => h
  | n + 1 => fun f ds S Q Q' EX EX' hQ hX h => by
    simp only [wpCall] at h ⊢
    split at h
    · refine ⟨h.1, wpCs_mono (wpCall_mono T F n) _ _ _ _ _ _ _ ?_ hX h.2⟩
      exact ⟨fun _ _ z => hQ _ _ z, hQ, fun _ _ z => z, fun _ _ z => z⟩
    · exact h.elim
end Mp
namespace Mp
open PySem L2
/-! ### clean data beside the abstract heap -/
abbrev Mu := Nat → Option Addr
/-- a list that is only read -/
def SqC (K : PySem.W.Frag) (H : Hp) (a : Addr) (xs : List V) : Prop :=
  (∃ o, H a = some (.frz o (.lst xs))) ∨
    ∃ (o : Obj) (its : Array Value) (n : Nat), K.lookup a = some o ∧ o.cls = .type "list" ∧ o.dict = none ∧ o.data = .seq its n ∧ its.size ≤ sizeLine ∧ Vals xs its.toList
theorem SqC.sql {K : PySem.W.Frag} {H : Hp} {a : Addr} {xs : List V} (h : SqC K H a xs) : SqL K H a xs := by
  rcases h with h | h
  · exact .inl (.inr h)
  · exact .inr h
/-- signs that there are -/
def Cok (s : List Nat) : Prop := ∀ c ∈ s, c < 0x110000
theorem Cok.of {s : List Nat} (h : s.all (· < 0x110000) = true) : Cok s := fun c hc => by simpa using List.all_eq_true.mp h c hc
theorem Cok.append {a b : List Nat} (h : Cok a) (k : Cok b) : Cok (a ++ b) := fun c hc => (List.mem_append.mp hc).elim (h c) (k c)
theorem Cok.sub {a b : List Nat} (h : Cok a) (k : ∀ c ∈ b, c ∈ a) : Cok b := fun c hc => h c (k c hc)
mutual
inductive RD (K : PySem.W.Frag) (μ : Mu) (H : Hp) : V → D → Prop
  | non : RD K μ H .non .non
  | bl (b : Bool) : RD K μ H (.bl b) (.bl b)
  | int (i : Int) : RD K μ H (.int i) (.int i)
  | str {s : List Nat} : Cok s → RD K μ H (.str ⟨s.toArray⟩) (.str s)
  | tup {a : Addr} {vs : List V} {ds : List D} : H a = some (.tup vs) → RDs K μ H vs ds → RD K μ H (.ref a) (.tup ds)
  | lis {a : Addr} {vs : List V} {ds : List D} : SqC K H a vs → RDs K μ H vs ds → RD K μ H (.ref a) (.lis ds)
  | ref {r : Nat} {a : Addr} : μ r = some a → RD K μ H (.ref a) (.ref r)
inductive RDs (K : PySem.W.Frag) (μ : Mu) (H : Hp) : List V → List D → Prop
  | nil : RDs K μ H [] []
  | cons {v : V} {vs : List V} {d : D} {ds : List D} : RD K μ H v d → RDs K μ H vs ds → RDs K μ H (v :: vs) (d :: ds)
end
theorem strBack (x : Str) : (⟨x.cps.toList.toArray⟩ : Str) = x := by cases x; simp
theorem RD.str' {K : PySem.W.Frag} {μ : Mu} {H : Hp} {s : List Nat} (h : Cok s) : RD K μ H (.str ⟨s.toArray⟩) (.str s) := .str h
theorem RD.strOf {K : PySem.W.Frag} {μ : Mu} {H : Hp} (x : Str) (h : Cok x.cps.toList) : RD K μ H (.str x) (.str x.cps.toList) := by
  have q := RD.str (K := K) (μ := μ) (H := H) h
  rw [strBack] at q
  exact q
theorem RD.str_inv {K : PySem.W.Frag} {μ : Mu} {H : Hp} {v : V} {s : List Nat} (h : RD K μ H v (.str s)) : v = .str ⟨s.toArray⟩ := by
  cases h; rfl
theorem RD.cok {K : PySem.W.Frag} {μ : Mu} {H : Hp} {v : V} {s : List Nat} (h : RD K μ H v (.str s)) : Cok s := by
  cases h; assumption
theorem RD.int_inv {K : PySem.W.Frag} {μ : Mu} {H : Hp} {v : V} {i : Int} (h : RD K μ H v (.int i)) : v = .int i := by cases h; rfl
theorem RD.bl_inv {K : PySem.W.Frag} {μ : Mu} {H : Hp} {v : V} {i : Bool} (h : RD K μ H v (.bl i)) : v = .bl i := by cases h; rfl
theorem RD.non_inv {K : PySem.W.Frag} {μ : Mu} {H : Hp} {v : V} (h : RD K μ H v .non) : v = .non := by cases h; rfl
theorem RD.tup_inv {K : PySem.W.Frag} {μ : Mu} {H : Hp} {v : V} {ds : List D} (h : RD K μ H v (.tup ds)) : ∃ a vs, v = .ref a ∧ H a = some (.tup vs) ∧ RDs K μ H vs ds := by
  cases h with
  | tup h1 h2 => exact ⟨_, _, rfl, h1, h2⟩
theorem RD.ref_inv {K : PySem.W.Frag} {μ : Mu} {H : Hp} {v : V} {r : Nat} (h : RD K μ H v (.ref r)) : ∃ a, v = .ref a ∧ μ r = some a := by
  cases h with
  | ref h1 => exact ⟨_, rfl, h1⟩
theorem RD.not_non {K : PySem.W.Frag} {μ : Mu} {H : Hp} {v : V} {d : D} (h : RD K μ H v d) : (v = .non) ↔ (d = .non) := by
  cases h <;> simp
/-- later worlds -/
structure Ext (μ : Mu) (H : Hp) (μ' : Mu) (H' : Hp) : Prop where
  mu : ∀ r a, μ r = some a → μ' r = some a
  tup : ∀ a xs, H a = some (.tup xs) → H' a = some (.tup xs)
  frz : ∀ a o u, H a = some (.frz o u) → H' a = some (.frz o u)
/-- .. as far as data hangs on it -/
structure Exw (μ : Mu) (H : Hp) (μ' : Mu) (H' : Hp) : Prop where
  mu : ∀ r a, μ r = some a → μ' r = some a
  tup : ∀ a xs, H a = some (.tup xs) → H' a = some (.tup xs)
  frl : ∀ a o xs, H a = some (.frz o (.lst xs)) → H' a = some (.frz o (.lst xs))
theorem Ext.w {μ μ' : Mu} {H H' : Hp} (e : Ext μ H μ' H') : Exw μ H μ' H' := ⟨e.mu, e.tup, fun a o xs h => e.frz a o _ h⟩
theorem Ext.refl (μ : Mu) (H : Hp) : Ext μ H μ H := ⟨fun _ _ h => h, fun _ _ h => h, fun _ _ _ h => h⟩
theorem Ext.trans {μ μ1 μ2 : Mu} {H H1 H2 : Hp} (a : Ext μ H μ1 H1) (b : Ext μ1 H1 μ2 H2) : Ext μ H μ2 H2 :=
  ⟨fun r x h => b.mu r x (a.mu r x h), fun r x h => b.tup r x (a.tup r x h), fun r x u h => b.frz r x u (a.frz r x u h)⟩
theorem Ext.upd {μ : Mu} {H : Hp} {a : Addr} {o : HO} (h : H a = none ∨ Mut (H a)) : Ext μ H μ (upd H a o) := by
  refine ⟨fun _ _ h => h, fun b xs e => ?_, fun b ob u e => ?_⟩
  · by_cases hb : b = a
    · subst hb; rw [e] at h; rcases h with h | h
      · cases h
      · exact h.elim
    · rw [upd_ne hb]; exact e
  · by_cases hb : b = a
    · subst hb; rw [e] at h; rcases h with h | h
      · cases h
      · exact h.elim
    · rw [upd_ne hb]; exact e
theorem SqC.extw {K : PySem.W.Frag} {μ μ' : Mu} {H H' : Hp} (e : Exw μ H μ' H') {a : Addr} {xs : List V} (h : SqC K H a xs) : SqC K H' a xs := by
  rcases h with ⟨o, h⟩ | h
  · exact .inl ⟨o, e.frl _ _ _ h⟩
  · exact .inr h
/-- a new place, told by the next number -/
def muAdd (μ : Mu) (n : Nat) (a : Addr) : Mu := fun r => if r = n then some a else μ r
theorem muAdd_self {μ : Mu} {n : Nat} {a : Addr} : muAdd μ n a n = some a := by simp [muAdd]
theorem muAdd_old {μ : Mu} {n r : Nat} {a : Addr} (h : r ≠ n) : muAdd μ n a r = μ r := by simp [muAdd, h]
mutual
theorem RD.extw {K : PySem.W.Frag} {μ μ' : Mu} {H H' : Hp} (e : Exw μ H μ' H') : ∀ {d : D} {v : V}, RD K μ H v d → RD K μ' H' v d
  | .non, _, h => by cases h; exact .non
  | .bl _, _, h => by cases h; exact .bl _
  | .int _, _, h => by cases h; exact .int _
  | .str _, _, h => by cases h with | str h => exact .str h
  | .tup ds, _, h => by
    cases h with
    | tup h1 h2 => exact .tup (e.tup _ _ h1) (RDs.extw e h2)
  | .lis ds, _, h => by
    cases h with
    | lis h1 h2 => exact .lis (h1.extw e) (RDs.extw e h2)
  | .ref r, _, h => by
    cases h with
    | ref h1 => exact .ref (e.mu _ _ h1)
theorem RDs.extw {K : PySem.W.Frag} {μ μ' : Mu} {H H' : Hp} (e : Exw μ H μ' H') : ∀ {ds : List D} {vs : List V}, RDs K μ H vs ds → RDs K μ' H' vs ds
  | [], _, h => by cases h; exact .nil
  | d :: ds, _, h => by
    cases h with
    | cons h1 h2 => exact .cons (RD.extw e h1) (RDs.extw e h2)
end
theorem RD.ext {K : PySem.W.Frag} {μ μ' : Mu} {H H' : Hp} (e : Ext μ H μ' H') {d : D} {v : V} (h : RD K μ H v d) : RD K μ' H' v d := h.extw e.w
theorem RDs.ext {K : PySem.W.Frag} {μ μ' : Mu} {H H' : Hp} (e : Ext μ H μ' H') {d : List D} {v : List V} (h : RDs K μ H v d) : RDs K μ' H' v d := h.extw e.w
section
variable {K : PySem.W.Frag} {μ : Mu} {H : Hp}
theorem RDs.length : ∀ {ds : List D} {vs : List V}, RDs K μ H vs ds → vs.length = ds.length
  | [], _, h => by cases h; rfl
  | _ :: ds, _, h => by
    cases h with
    | cons _ h2 => simp [RDs.length h2]
theorem RDs.get : ∀ {ds : List D} {vs : List V} {i : Nat} {d : D}, RDs K μ H vs ds → ds[i]? = some d → ∃ v, vs[i]? = some v ∧ RD K μ H v d
  | [], _, _, _, _, e => by simp at e
  | x :: ds, _, 0, d, h, e => by
    cases h with
    | cons h1 h2 => simp at e; subst e; exact ⟨_, rfl, h1⟩
  | x :: ds, _, i + 1, d, h, e => by
    cases h with
    | cons h1 h2 => simpa using RDs.get h2 (by simpa using e)
theorem RDs.append : ∀ {ds es : List D} {vs ws : List V}, RDs K μ H vs ds → RDs K μ H ws es → RDs K μ H (vs ++ ws) (ds ++ es)
  | [], _, _, _, h, h' => by cases h; exact h'
  | _ :: _, _, _, _, h, h' => by
    cases h with
    | cons h1 h2 => exact .cons h1 (RDs.append h2 h')
theorem RDs.take : ∀ {ds : List D} {vs : List V} (n : Nat), RDs K μ H vs ds → RDs K μ H (vs.take n) (ds.take n)
  | _, _, 0, _ => by simp; exact .nil
  | [], _, n + 1, h => by cases h; exact .nil
  | _ :: _, _, n + 1, h => by
    cases h with
    | cons h1 h2 => exact .cons h1 (RDs.take n h2)
theorem RDs.drop : ∀ {ds : List D} {vs : List V} (n : Nat), RDs K μ H vs ds → RDs K μ H (vs.drop n) (ds.drop n)
  | _, _, 0, h => by simpa using h
  | [], _, n + 1, h => by cases h; exact .nil
  | _ :: _, _, n + 1, h => by
    cases h with
    | cons h1 h2 => simpa using RDs.drop n h2
theorem RDs.reverse : ∀ {ds : List D} {vs : List V}, RDs K μ H vs ds → RDs K μ H vs.reverse ds.reverse
  | [], _, h => by cases h; exact .nil
  | _ :: _, _, h => by
    cases h with
    | cons h1 h2 => rw [List.reverse_cons, List.reverse_cons]; exact RDs.append (RDs.reverse h2) (.cons h1 .nil)
theorem RDs.set {d : D} {v : V} (r : RD K μ H v d) : ∀ {ds : List D} {vs : List V} (n : Nat), RDs K μ H vs ds → RDs K μ H (vs.set n v) (ds.set n d)
  | [], _, _, h => by cases h; exact .nil
  | _ :: _, _, 0, h => by
    cases h with
    | cons h1 h2 => exact .cons r h2
  | _ :: _, _, n + 1, h => by
    cases h with
    | cons h1 h2 => exact .cons h1 (RDs.set r n h2)
theorem RDs.atI {ds : List D} {vs : List V} {i : Int} {d : D} (h : RDs K μ H vs ds) (e : L2.atI ds i = some d) : ∃ v, L2.atI vs i = some v ∧ RD K μ H v d := by
  unfold L2.atI at e ⊢
  rw [h.length]
  cases z : ixN ds.length i with
  | none => rw [z] at e; simp at e
  | some j => rw [z] at e; simpa using h.get (by simpa using e)
theorem RDs.two {x y : D} {vs : List V} (h : RDs K μ H vs [x, y]) : ∃ v w, vs = [v, w] ∧ RD K μ H v x ∧ RD K μ H w y := by
  cases h with
  | cons h1 h2 =>
    cases h2 with
    | cons h3 h4 => cases h4; exact ⟨_, _, rfl, h1, h3⟩
theorem RDs.one {x : D} {vs : List V} (h : RDs K μ H vs [x]) : ∃ v, vs = [v] ∧ RD K μ H v x := by
  cases h with
  | cons h1 h2 => cases h2; exact ⟨_, rfl, h1⟩
theorem RDs.ints (ns : List Int) : RDs K μ H (ns.map V.int) (ns.map D.int) := by
  induction ns with
  | nil => exact .nil
  | cons n r ih => exact .cons (.int n) ih
end
/-- what the text's top holds, for the clean names -/
structure Nms where
  kap : Nat → Option Addr
  kex : Nat → Option Addr
  nm : Nat → Str
/-- a dict's pairs: keys texts and numbers; tuples of such -/
inductive RK1 (K : PySem.W.Frag) (μ : Mu) (H : Hp) : List (Key × V) → List (D × D) → Prop
  | nil : RK1 K μ H [] []
  | cons {k : Key} {v : V} {kv : List (Key × V)} {d e : D} {kvs : List (D × D)} : key1 d = some k → RD K μ H (kV k) d → RD K μ H v e → RK1 K μ H kv kvs → RK1 K μ H ((k, v) :: kv) ((d, e) :: kvs)
inductive RKT (K : PySem.W.Frag) (μ : Mu) (H : Hp) : List (List Key × V) → List (D × D) → Prop
  | nil : RKT K μ H [] []
  | cons {k : List Key} {v : V} {kv : List (List Key × V)} {ds : List D} {e : D} {kvs : List (D × D)} : ds.mapM key1 = some k → RDs K μ H (k.map kV) ds → RD K μ H v e → RKT K μ H kv kvs → RKT K μ H ((k, v) :: kv) ((.tup ds, e) :: kvs)
inductive RF (nm : Nat → Str) (K : PySem.W.Frag) (μ : Mu) (H : Hp) : List (Str × V) → List (Nat × D) → Prop
  | nil : RF nm K μ H [] []
  | cons {f : Nat} {v : V} {fv : List (Str × V)} {d : D} {fs : List (Nat × D)} : RD K μ H v d → RF nm K μ H fv fs → RF nm K μ H ((nm f, v) :: fv) ((f, d) :: fs)
/-- an object of the store, at its address -/
def RO (N : Nms) (K : PySem.W.Frag) (μ : Mu) (H : Hp) (a : Addr) : Ob → Prop
  | .lst ds => ∃ vs, H a = some (.lst vs) ∧ RDs K μ H vs ds
  | .dic false false kvs => ∃ kv, H a = some (.dK kv) ∧ RK1 K μ H kv kvs
  | .dic false true kvs => ∃ o kv, H a = some (.frz o (.dK kv)) ∧ RK1 K μ H kv kvs
  | .dic true false kvs => ∃ kv, H a = some (.dT kv) ∧ RKT K μ H kv kvs
  | .dic true true kvs => ∃ o kv, H a = some (.frz o (.dT kv)) ∧ RKT K μ H kv kvs
  | .ins c fs => ∃ C dx fv, N.kap c = some C ∧ H a = some (.ins C dx fv) ∧ RF N.nm K μ H fv fs
/-- the store beside the abstract heap -/
structure Rel (N : Nms) (K : PySem.W.Frag) (μ : Mu) (S : Sto) (H : Hp) : Prop where
  at_ : ∀ r ob, S[r]? = some ob → ∃ a, μ r = some a ∧ RO N K μ H a ob
  inj : ∀ r q a, μ r = some a → μ q = some a → r = q
  dom : ∀ r a, μ r = some a → r < S.length
/-- a frame's names -/
structure RE (K : PySem.W.Frag) (μ : Mu) (H : Hp) (ρ : Env) (σ : St) : Prop where
  len : ρ.length = σ.length
  at_ : ∀ (i : Nat) (d : D), ρ[i]? = some (some d) → ∃ v, σ[i]? = some (some v) ∧ RD K μ H v d
section
variable {N : Nms} {K : PySem.W.Frag} {μ μ' : Mu} {S : Sto} {H H' : Hp}
theorem RK1.extw (e : Exw μ H μ' H') {kv : List (Key × V)} {kvs : List (D × D)} (h : RK1 K μ H kv kvs) : RK1 K μ' H' kv kvs := by
  induction h with
  | nil => exact .nil
  | cons h1 h0 h2 _ ih => exact .cons h1 (h0.extw e) (h2.extw e) ih
theorem RKT.extw (e : Exw μ H μ' H') {kv : List (List Key × V)} {kvs : List (D × D)} (h : RKT K μ H kv kvs) : RKT K μ' H' kv kvs := by
  induction h with
  | nil => exact .nil
  | cons h1 h0 h2 _ ih => exact .cons h1 (h0.extw e) (h2.extw e) ih
theorem RF.extw (e : Exw μ H μ' H') {nm : Nat → Str} {kv : List (Str × V)} {kvs : List (Nat × D)} (h : RF nm K μ H kv kvs) : RF nm K μ' H' kv kvs := by
  induction h with
  | nil => exact .nil
  | cons h1 _ ih => exact .cons (h1.extw e) ih
theorem RE.extw (e : Exw μ H μ' H') {ρ : Env} {σ : St} (h : RE K μ H ρ σ) : RE K μ' H' ρ σ :=
  ⟨h.len, fun i d z => let ⟨v, a, b⟩ := h.at_ i d z; ⟨v, a, b.extw e⟩⟩
theorem RK1.ext (e : Ext μ H μ' H') {kv : List (Key × V)} {kvs : List (D × D)} (h : RK1 K μ H kv kvs) : RK1 K μ' H' kv kvs := h.extw e.w
theorem RKT.ext (e : Ext μ H μ' H') {kv : List (List Key × V)} {kvs : List (D × D)} (h : RKT K μ H kv kvs) : RKT K μ' H' kv kvs := h.extw e.w
theorem RF.ext (e : Ext μ H μ' H') {nm : Nat → Str} {kv : List (Str × V)} {kvs : List (Nat × D)} (h : RF nm K μ H kv kvs) : RF nm K μ' H' kv kvs := h.extw e.w
theorem RE.ext (e : Ext μ H μ' H') {ρ : Env} {σ : St} (h : RE K μ H ρ σ) : RE K μ' H' ρ σ := h.extw e.w
theorem RE.set {ρ : Env} {σ : St} {i : Nat} {d : D} {v : V} (h : RE K μ H ρ σ) (r : RD K μ H v d) : RE K μ H (ρ.set i (some d)) (σ.set i (some v)) := by
  refine ⟨by simp [h.len], fun j x z => ?_⟩
  by_cases hj : i = j
  · subst hj
    by_cases hi : i < ρ.length
    · rw [List.getElem?_set_self hi] at z
      cases z
      exact ⟨v, List.getElem?_set_self (by rw [← h.len]; exact hi), r⟩
    · rw [List.getElem?_eq_none (by simp; omega)] at z; cases z
  · rw [List.getElem?_set_ne hj] at z ⊢
    exact h.at_ j x z
/-- an object that still stands at its address -/
theorem RO.ext (e : Ext μ H μ' H') {a : Addr} {ob : Ob} (h : RO N K μ H a ob) (s : ∀ o, H a = some o → Mut (some o) → H' a = some o) : RO N K μ' H' a ob := by
  cases ob with
  | lst ds => obtain ⟨vs, h1, h2⟩ := h; exact ⟨vs, s _ h1 trivial, h2.ext e⟩
  | dic t lk kvs =>
    cases t <;> cases lk
    · obtain ⟨kv, h1, h2⟩ := h; exact ⟨kv, s _ h1 trivial, h2.ext e⟩
    · obtain ⟨o, kv, h1, h2⟩ := h; exact ⟨o, kv, e.frz _ _ _ h1, h2.ext e⟩
    · obtain ⟨kv, h1, h2⟩ := h; exact ⟨kv, s _ h1 trivial, h2.ext e⟩
    · obtain ⟨o, kv, h1, h2⟩ := h; exact ⟨o, kv, e.frz _ _ _ h1, h2.ext e⟩
  | ins c fs => obtain ⟨C, dx, fv, h0, h1, h2⟩ := h; exact ⟨C, dx, fv, h0, s _ h1 trivial, h2.ext e⟩
/-- all tracked objects of the store may be written, or are locked, or only read -/
theorem Rel.get (R : Rel N K μ S H) {r : Nat} {ob : Ob} (h : S[r]? = some ob) : ∃ a, μ r = some a ∧ RO N K μ H a ob := R.at_ r ob h
theorem Rel.ref (R : Rel N K μ S H) {v : V} {r : Nat} {ob : Ob} (h : RD K μ H v (.ref r)) (e : S[r]? = some ob) : ∃ a, v = .ref a ∧ μ r = some a ∧ RO N K μ H a ob := by
  obtain ⟨a, rfl, h1⟩ := h.ref_inv
  obtain ⟨b, h2, h3⟩ := R.at_ r ob e
  rw [h1] at h2; cases h2
  exact ⟨a, rfl, h1, h3⟩
/-- an object of the store is written anew -/
theorem Rel.write (R : Rel N K μ S H) {r : Nat} {a : Addr} {o : HO} {ob : Ob} (h : μ r = some a) (m : Mut (H a)) (n : RO N K μ (upd H a o) a ob) : Rel N K μ (S.set r ob) (upd H a o) := by
  refine ⟨fun q x e => ?_, R.inj, fun q b e => by simpa using R.dom q b e⟩
  by_cases hq : r = q
  · subst hq
    by_cases hi : r < S.length
    · rw [List.getElem?_set_self hi] at e
      cases e
      exact ⟨a, h, n⟩
    · rw [List.getElem?_eq_none (by simp; omega)] at e; cases e
  · rw [List.getElem?_set_ne hq] at e
    obtain ⟨b, h1, h2⟩ := R.at_ q x e
    refine ⟨b, h1, h2.ext (Ext.upd (.inr m)) fun u z _ => ?_⟩
    have ne : b ≠ a := fun e' => hq (R.inj r q a h (e' ▸ h1))
    rw [upd_ne ne]
    exact z
theorem RO.there {a : Addr} {ob : Ob} (h : RO N K μ H a ob) : H a ≠ none := by
  cases ob with
  | lst ds => obtain ⟨vs, h1, _⟩ := h; rw [h1]; simp
  | dic t lk kvs =>
    cases t <;> cases lk
    · obtain ⟨_, h1, _⟩ := h; rw [h1]; simp
    · obtain ⟨_, _, h1, _⟩ := h; rw [h1]; simp
    · obtain ⟨_, h1, _⟩ := h; rw [h1]; simp
    · obtain ⟨_, _, h1, _⟩ := h; rw [h1]; simp
  | ins c fs => obtain ⟨_, _, _, _, h1, _⟩ := h; rw [h1]; simp
theorem Rel.fresh (R : Rel N K μ S H) {a : Addr} (h : H a = none) : ∀ r, μ r ≠ some a := fun r e => by
  have hr := R.dom r a e
  obtain ⟨b, h1, h2⟩ := R.at_ r S[r] (List.getElem?_eq_getElem hr)
  rw [e] at h1; cases h1
  exact h2.there h
/-- a new object -/
theorem Rel.push (R : Rel N K μ S H) {a : Addr} {o : HO} {ob : Ob} (hn : H a = none) (n : RO N K (muAdd μ S.length a) (upd H a o) a ob) : Rel N K (muAdd μ S.length a) (S ++ [ob]) (upd H a o) := by
  have fresh := R.fresh hn
  have ext : Ext μ H (muAdd μ S.length a) (upd H a o) := by
    have e := Ext.upd (μ := μ) (a := a) (o := o) (.inl hn)
    exact ⟨fun r b h => by rw [muAdd_old (Nat.ne_of_lt (R.dom r b h))]; exact h, e.tup, e.frz⟩
  refine ⟨fun q x e => ?_, fun r q b h1 h2 => ?_, fun r b h => ?_⟩
  · by_cases hq : q < S.length
    · rw [List.getElem?_append_left hq] at e
      obtain ⟨b, h1, h2⟩ := R.at_ q x e
      refine ⟨b, by rw [muAdd_old (Nat.ne_of_lt hq)]; exact h1, h2.ext ext fun u z _ => ?_⟩
      have ne : b ≠ a := fun e' => fresh q (e' ▸ h1)
      rw [upd_ne ne]
      exact z
    · have hq' : q = S.length := by
        have := (List.getElem?_eq_some_iff.mp e).1
        simp at this; omega
      subst hq'
      rw [List.getElem?_append_right (Nat.le_refl _)] at e
      simp at e
      subst e
      exact ⟨a, muAdd_self, n⟩
  · by_cases hr : r = S.length <;> by_cases hq : q = S.length
    · rw [hr, hq]
    · subst hr
      rw [muAdd_self] at h1; cases h1
      rw [muAdd_old hq] at h2
      exact absurd h2 (fresh q)
    · subst hq
      rw [muAdd_self] at h2; cases h2
      rw [muAdd_old hr] at h1
      exact absurd h1 (fresh r)
    · rw [muAdd_old hr] at h1
      rw [muAdd_old hq] at h2
      exact R.inj r q b h1 h2
  · by_cases hr : r = S.length
    · rw [hr]; simp
    · rw [muAdd_old hr] at h
      have := R.dom r b h
      simp; omega
theorem Rel.pushExt (R : Rel N K μ S H) {a : Addr} {o : HO} (hn : H a = none) : Ext μ H (muAdd μ S.length a) (upd H a o) := by
  have e := Ext.upd (μ := μ) (a := a) (o := o) (.inl hn)
  exact ⟨fun r b h => by rw [muAdd_old (Nat.ne_of_lt (R.dom r b h))]; exact h, e.tup, e.frz⟩
/-- a world goes on where an address that no place has is written -/
theorem Rel.other (R : Rel N K μ S H) {a : Addr} {o : HO} (fresh : ∀ r, μ r ≠ some a) (hm : H a = none ∨ Mut (H a)) : Rel N K μ S (upd H a o) := by
  refine ⟨fun q x e => ?_, R.inj, R.dom⟩
  obtain ⟨b, h1, h2⟩ := R.at_ q x e
  refine ⟨b, h1, h2.ext (Ext.upd hm) fun u z _ => ?_⟩
  have ne : b ≠ a := fun e' => fresh q (e' ▸ h1)
  rw [upd_ne ne]
  exact z
end
end Mp
namespace Mp
open PySem L2
/-- the text's top, by clean names: N names and classes, T constants and classes' members, F the defs, adr their addresses -/
structure Gl where
  N : Nms
  T : Tab
  F : Nat → Option Df
  adr : Nat → Option Addr
/-- a wish of the abstract heap, told of clean data -/
def LQ (N : Nms) (K : PySem.W.Frag) (μ : Mu) (H : Hp) (Q : VK) : PQ := fun d S' => ∀ μ' H' v, Ext μ H μ' H' → Rel N K μ' S' H' → RD K μ' H' v d → Q v H'
def LX (N : Nms) (K : PySem.W.Frag) (μ : Mu) (H : Hp) (E : XK) : PX := fun c S' => ∀ μ' H' C, Ext μ H μ' H' → Rel N K μ' S' H' → N.kex c = some C → E (.ref C) none H'
/-- what a def promises: what its clean body does -/
def spOf (G : Gl) (K : PySem.W.Frag) (k : Nat) (f : Nat) : Sp := fun vs H Q E => ∃ μ S ds, Rel G.N K μ S H ∧ RDs K μ H vs ds ∧ wpCall G.T G.F k f ds S (LQ G.N K μ H Q) (LX G.N K μ H E)
/-- exceptions around: W what is wished of them, EX what the clean code says of them -/
structure Sx (G : Gl) (K : PySem.W.Frag) (W : WX) where
  μ0 : Mu
  H0 : Hp
  EX : PX
  P : Mu → Hp → St → Prop
  mono : ∀ {μ H μ' H' σ}, Ext μ H μ' H' → P μ H σ → P μ' H' σ
  ok : ∀ c S' μ' H' σ' C, EX c S' → Ext μ0 H0 μ' H' → Rel G.N K μ' S' H' → P μ' H' σ' → G.N.kex c = some C → W (.ref C) none σ' H'
/-- no exception at all -/
def Sx.none_ (G : Gl) (K : PySem.W.Frag) (W : WX) (μ : Mu) (H : Hp) : Sx G K W where
  μ0 := μ
  H0 := H
  EX := fun _ _ => False
  P := fun _ _ _ => True
  mono := fun _ _ => trivial
  ok := fun _ _ _ _ _ _ h => h.elim
abbrev M := Env → Sto → PQ → PX → Prop
abbrev Ms := Env → Sto → (List D → Sto → Prop) → PX → Prop
def MonoM (m : M) : Prop := ∀ ρ S Q Q' EX EX', (∀ d S', Q d S' → Q' d S') → (∀ k S', EX k S' → EX' k S') → m ρ S Q EX → m ρ S Q' EX'
def MonoMs (m : Ms) : Prop := ∀ ρ S Q Q' EX EX', (∀ d S', Q d S' → Q' d S') → (∀ k S', EX k S' → EX' k S') → m ρ S Q EX → m ρ S Q' EX'
section
variable {G : Gl} {K : PySem.W.Frag} {W : WX}
/-- a world: the clean frame and store beside the slots and the abstract heap -/
structure Wd (x : Sx G K W) (σ : St) (H : Hp) (μ : Mu) (S : Sto) (ρ : Env) : Prop where
  ext : Ext x.μ0 x.H0 μ H
  rel : Rel G.N K μ S H
  re : RE K μ H ρ σ
  p : x.P μ H σ
theorem Wd.next {x : Sx G K W} {σ : St} {H H' : Hp} {μ μ' : Mu} {S S' : Sto} {ρ : Env} (w : Wd x σ H μ S ρ) (e : Ext μ H μ' H') (r : Rel G.N K μ' S' H') : Wd x σ H' μ' S' ρ :=
  ⟨w.ext.trans e, r, w.re.ext e, x.mono e w.p⟩
/-- the reading of a term -/
def LE (x : Sx G K W) (m : M) : TE := fun σ H Q => ∃ μ S ρ, Wd x σ H μ S ρ ∧ m ρ S (LQ G.N K μ H Q) x.EX
def LT (x : Sx G K W) (m : M) : TT := fun σ H Q => ∃ μ S ρ, Wd x σ H μ S ρ ∧ m ρ S (fun d S' => match d with
  | .bl b => ∀ μ' H', Ext μ H μ' H' → Rel G.N K μ' S' H' → Q b H'
  | _ => False) x.EX
def LA (x : Sx G K W) (m : Ms) : TA := fun σ H Q => ∃ μ S ρ, Wd x σ H μ S ρ ∧ m ρ S (fun ds S' => ∀ μ' H' vs, Ext μ H μ' H' → Rel G.N K μ' S' H' → RDs K μ' H' vs ds → Q vs H') x.EX
theorem bindW {x : Sx G K W} {ma : M} (hm : MonoM ma) {σ : St} {H : Hp} {μ : Mu} {S : Sto} {ρ : Env} {k : D → Sto → Prop} {R : VK} (wd : Wd x σ H μ S ρ) (h : ma ρ S k x.EX)
    (hR : ∀ v H1 μ1 S1 d, Ext μ H μ1 H1 → Wd x σ H1 μ1 S1 ρ → RD K μ1 H1 v d → k d S1 → R v H1) : LE x ma σ H R :=
  ⟨μ, S, ρ, wd, hm _ _ _ _ _ _ (fun d S1 q μ1 H1 v e r rd => hR v H1 μ1 S1 d e (wd.next e r) rd q) (fun _ _ z => z) h⟩
theorem bindA {x : Sx G K W} {ma : Ms} (hm : MonoMs ma) {σ : St} {H : Hp} {μ : Mu} {S : Sto} {ρ : Env} {k : List D → Sto → Prop} {R : List V → Hp → Prop} (wd : Wd x σ H μ S ρ) (h : ma ρ S k x.EX)
    (hR : ∀ vs H1 μ1 S1 ds, Ext μ H μ1 H1 → Wd x σ H1 μ1 S1 ρ → RDs K μ1 H1 vs ds → k ds S1 → R vs H1) : LA x ma σ H R :=
  ⟨μ, S, ρ, wd, hm _ _ _ _ _ _ (fun d S1 q μ1 H1 v e r rd => hR v H1 μ1 S1 d e (wd.next e r) rd q) (fun _ _ z => z) h⟩
theorem bindT {x : Sx G K W} {ma : M} (hm : MonoM ma) {σ : St} {H : Hp} {μ : Mu} {S : Sto} {ρ : Env} {k : D → Sto → Prop} {R : Bool → Hp → Prop} (wd : Wd x σ H μ S ρ) (h : ma ρ S k x.EX)
    (hB : ∀ d S1, k d S1 → ∃ b, d = .bl b) (hR : ∀ b H1 μ1 S1, Ext μ H μ1 H1 → Wd x σ H1 μ1 S1 ρ → k (.bl b) S1 → R b H1) : LT x ma σ H R :=
  ⟨μ, S, ρ, wd, hm _ _ _ _ _ _ (fun d S1 q => by
    obtain ⟨b, rfl⟩ := hB d S1 q
    exact fun μ1 H1 e r => hR b H1 μ1 S1 e (wd.next e r) q) (fun _ _ z => z) h⟩
end
theorem _root_.L2.PE.imp {X : Cx} {e : Expr} {t t' : TE} (h : PE X e t) (i : ∀ σ H Q, t' σ H Q → t σ H Q) : PE X e t' := ⟨fun pins s σ H Q I q => h.run pins s σ H Q I (i _ _ _ q)⟩
theorem _root_.L2.PT.imp {X : Cx} {e : Expr} {t t' : TT} (h : PT X e t) (i : ∀ σ H Q, t' σ H Q → t σ H Q) : PT X e t' := ⟨fun pins s σ H Q I q => h.run pins s σ H Q I (i _ _ _ q)⟩
theorem _root_.L2.PW.imp {X : Cx} {e : Expr} {t t' : TT} (h : PW X e t) (i : ∀ σ H Q, t' σ H Q → t σ H Q) : PW X e t' := ⟨fun wh pins s σ H Q I q => h.run wh pins s σ H Q I (i _ _ _ q)⟩
theorem _root_.L2.PA.imp {X : Cx} {e : List Expr} {t t' : TA} (h : PA X e t) (i : ∀ σ H Q, t' σ H Q → t σ H Q) : PA X e t' := ⟨fun pos pins s σ H Q I q => h.run pos pins s σ H Q I (i _ _ _ q)⟩
theorem _root_.L2.PS.imp {X : Cx} {e : Stmt} {t t' : TS} (h : PS X e t) (i : ∀ σ H D, t' D σ H → t D σ H) : PS X e t' := ⟨fun pins s σ H D I q => h.run pins s σ H D I (i _ _ _ q)⟩
theorem _root_.L2.PSs.imp {X : Cx} {e : List Stmt} {t t' : TS} (h : PSs X e t) (i : ∀ σ H D, t' D σ H → t D σ H) : PSs X e t' := ⟨fun pins s σ H D I q => h.run pins s σ H D I (i _ _ _ q)⟩
theorem _root_.L2.PI.imp {X : Cx} {tg e : Expr} {t t' : TI} (h : PI X tg e t) (i : ∀ σ H Q, t' σ H Q → t σ H Q) : PI X tg e t' := ⟨fun pins s σ H R I q => h.run pins s σ H R I (i _ _ _ q)⟩
section
variable {G : Gl} {X : Cx} {C : Calls} {hx : Option Nat}
abbrev mE (G : Gl) (C : Calls) (hx : Option Nat) (e : Tm) : M := fun ρ S Q EX => wpE G.T C hx e ρ S Q EX
abbrev mEs (G : Gl) (C : Calls) (hx : Option Nat) (e : Tms) : Ms := fun ρ S Q EX => wpEs G.T C hx e ρ S Q EX
theorem monoE (hC : MonoC C) (e : Tm) : MonoM (mE G C hx e) := fun ρ S Q Q' EX EX' hQ hX h => wpE_mono hC e ρ S Q Q' EX EX' hQ hX h
theorem monoEs (hC : MonoC C) (e : Tms) : MonoMs (mEs G C hx e) := fun ρ S Q Q' EX EX' hQ hX h => wpEs_mono hC e ρ S Q Q' EX EX' hQ hX h
/-- the rule of a term: in any surroundings -/
def CE (G : Gl) (C : Calls) (hx : Option Nat) (X : Cx) (e : Expr) (m : Tm) : Prop := ∀ (W : WX) (_ : Takes X W) (x : Sx G X.K W), PE X e (LE x (mE G C hx m))
def CT (G : Gl) (C : Calls) (hx : Option Nat) (X : Cx) (e : Expr) (m : Tm) : Prop := ∀ (W : WX) (_ : Takes X W) (x : Sx G X.K W), PT X e (LT x (mE G C hx m))
def CW (G : Gl) (C : Calls) (hx : Option Nat) (X : Cx) (e : Expr) (m : Tm) : Prop := ∀ (W : WX) (_ : Takes X W) (x : Sx G X.K W), PW X e (LT x (mE G C hx m))
/-- terms one by one -/
inductive CEs (G : Gl) (C : Calls) (hx : Option Nat) (X : Cx) : List Expr → Tms → Prop
  | nil : CEs G C hx X [] .nil
  | cons {e : Expr} {es : List Expr} {m : Tm} {ms : Tms} : CE G C hx X e m → (∀ (y : Expr) (p : Pos), e ≠ .Starred y p) → CEs G C hx X es ms → CEs G C hx X (e :: es) (.cons m ms)
theorem starEach_cons {e : Expr} (h : ∀ (y : Expr) (p : Pos), e ≠ .Starred y p) (es : List Expr) (env : PySem.Env) : starEach (e :: es) env = (false, eval e env) :: starEach es env := by
  cases e <;> first | rfl | (exact absurd rfl (h _ _))
theorem CEs.pa (hC : MonoC C) {es : List Expr} {ms : Tms} (h : CEs G C hx X es ms) {W : WX} (tk : Takes X W) (x : Sx G X.K W) : PA X es (LA x (mEs G C hx ms)) := by
  induction h with
  | nil => exact pa_nil.imp fun σ H Q ⟨μ, S, ρ, wd, q⟩ => q μ H [] (Ext.refl _ _) wd.rel .nil
  | @cons e es m ms h1 hs h2 ih =>
    refine (pa_cons (h1 W tk x) ih (starEach_cons hs _ _)).imp fun σ H Q ⟨μ, S, ρ, wd, q⟩ => ?_
    refine bindW (monoE hC m) wd q fun v H1 μ1 S1 d e1 w1 r1 q1 => ?_
    refine bindA (monoEs hC ms) w1 q1 fun vs H2 μ2 S2 ds e2 w2 r2 q2 => ?_
    exact q2 μ2 H2 (v :: vs) (e1.trans e2) w2.rel (.cons (r1.ext e2) r2)
/-! ### names, constants -/
theorem ce_var {i : Nat} {y : Str} {pos : Pos} (hN : X.N[i]? = some y) (hv : Vis X.env.scope y) (hd : (y == ("__debug__" : Str)) = false) (hcd : (y == ("__classdict__" : Str)) = false) : CE G C hx X (.Name y pos) (.var i) := fun W _ x =>
  (pe_var hN hv hd hcd).imp fun σ H Q ⟨μ, S, ρ, wd, q⟩ => by
    simp only [wpE] at q
    split at q
    · rename_i d e
      obtain ⟨v, h1, h2⟩ := wd.re.at_ i d e
      exact ⟨v, h1, q μ H v (Ext.refl _ _) wd.rel h2⟩
    · exact q.elim
theorem ce_const {c : Const} {d : D} {j : Nat} {pos : Pos} (v : V) (h : PE X (.Constant c j pos) (tC v)) (r : ∀ μ H, RD X.K μ H v d) : CE G C hx X (.Constant c j pos) (.cst d) := fun W _ x =>
  h.imp fun σ H Q ⟨μ, S, ρ, wd, q⟩ => q μ H v (Ext.refl _ _) wd.rel (r μ H)
theorem ce_int {i : Int} {j : Nat} {pos : Pos} : CE G C hx X (.Constant (.int i) j pos) (.cst (.int i)) := ce_const (.int i) pe_int fun _ _ => .int i
theorem ce_bl {i : Bool} {j : Nat} {pos : Pos} : CE G C hx X (.Constant (.bool i) j pos) (.cst (.bl i)) := ce_const (.bl i) pe_bl fun _ _ => .bl i
theorem ce_non {j : Nat} {pos : Pos} : CE G C hx X (.Constant .none j pos) (.cst .non) := ce_const .non pe_non fun _ _ => .non
theorem ce_str {y : Str} {j : Nat} {pos : Pos} {s : List Nat} (h : y.cps.toList = s) (hb : s.all (· < 0x110000) = true) : CE G C hx X (.Constant (.str y) j pos) (.cst (.str s)) := ce_const (.str y) pe_str fun _ _ => by
  subst h; exact .strOf y (.of hb)
theorem ce_glob {y : Str} {pos : Pos} {g : Nat} {d : D} {v : V} (hg : L2.Gl X y) (hm : ∃ u, X.mg y = some u ∧ RelV v u) (r : ∀ μ H, RD X.K μ H v d) (hc : G.T.con g = some d) (hd : (y == ("__debug__" : Str)) = false) : CE G C hx X (.Name y pos) (.glob g) := fun W _ x => by
  obtain ⟨u, hu, ru⟩ := hm
  exact (pe_glob (v := v) hg hu ru hd).imp fun σ H Q ⟨μ, S, ρ, wd, q⟩ => by
    simp only [wpE, hc] at q
    exact q μ H _ (Ext.refl _ _) wd.rel (r μ H)
/-! ### operators by values -/
/-- a rule of values says what the clean operator does -/
def VOk (G : Gl) (K : PySem.W.Frag) (o : Op) (r : List V → Hp → VK → Prop) : Prop :=
  ∀ (μ0 : Mu) (H0 : Hp) (μ : Mu) (S : Sto) (H : Hp) (vs : List V) (ds : List D) (Q : VK), Ext μ0 H0 μ H → Rel G.N K μ S H → RDs K μ H vs ds → opD G.T o ds S (LQ G.N K μ0 H0 Q) → r vs H Q
/-- .. of two -/
def VOk2 (G : Gl) (K : PySem.W.Frag) (o : Op) (r : R2) : Prop := VOk G K o fun vs H Q => ∀ x y, vs = [x, y] → r x y H Q
theorem ce_bin (hC : MonoC C) {o : Op} {bop : Operator} {r : R2} {a b : Expr} {ma mb : Tm} {pos : Pos} (ho : OpR X (binaryOp bop) r) (hv : VOk2 G X.K o r)
    (ha : CE G C hx X a ma) (hb : CE G C hx X b mb) : CE G C hx X (.BinOp a bop b pos) (.op o (.cons ma (.cons mb .nil))) := fun W tk x => by
  refine (pe_op ho (ha W tk x) (hb W tk x)).imp fun σ H Q ⟨μ, S, ρ, wd, q⟩ => ?_
  refine bindW (monoE hC ma) wd q fun v H1 μ1 S1 d e1 w1 r1 q1 => ?_
  refine bindW (monoE hC mb) w1 q1 fun u H2 μ2 S2 d' e2 w2 r2 q2 => ?_
  exact hv μ H μ2 S2 H2 [v, u] [d, d'] Q (e1.trans e2) w2.rel (.cons (r1.ext e2) (.cons r2 .nil)) q2 v u rfl
theorem ce_cmp (hC : MonoC C) {o : Op} {cop : CmpOp} {r : R2} {a b : Expr} {ma mb : Tm} {pos : Pos} (ho : OpR X (compareOp cop) r) (hv : VOk2 G X.K o r)
    (ha : CE G C hx X a ma) (hb : CE G C hx X b mb) (hm : behindInMarks cop b = false) : CE G C hx X (.Compare a [cop] [b] pos) (.op o (.cons ma (.cons mb .nil))) := fun W tk x => by
  refine (pe_cmpR ho (ha W tk x) (hb W tk x) hm).imp fun σ H Q ⟨μ, S, ρ, wd, q⟩ => ?_
  refine bindW (monoE hC ma) wd q fun v H1 μ1 S1 d e1 w1 r1 q1 => ?_
  refine bindW (monoE hC mb) w1 q1 fun u H2 μ2 S2 d' e2 w2 r2 q2 => ?_
  exact hv μ H μ2 S2 H2 [v, u] [d, d'] Q (e1.trans e2) w2.rel (.cons (r1.ext e2) (.cons r2 .nil)) q2 v u rfl
theorem ct_cmp (hC : MonoC C) {o : Op} {cop : CmpOp} {r : R2} {a b : Expr} {ma mb : Tm} {pos : Pos} (ho : OpR X (compareOp cop) r) (hv : VOk2 G X.K o r)
    (ha : CE G C hx X a ma) (hb : CE G C hx X b mb) (hm : behindInMarks cop b = false) : CT G C hx X (.Compare a [cop] [b] pos) (.op o (.cons ma (.cons mb .nil))) := fun W tk x => by
  refine (pt_cmpR ho (ha W tk x) (hb W tk x) hm).imp fun σ H Q ⟨μ, S, ρ, wd, q⟩ => ?_
  refine bindW (monoE hC ma) wd q fun v H1 μ1 S1 d e1 w1 r1 q1 => ?_
  refine bindW (monoE hC mb) w1 q1 fun u H2 μ2 S2 d' e2 w2 r2 q2 => ?_
  refine hv μ H μ2 S2 H2 [v, u] [d, d'] _ (e1.trans e2) w2.rel (.cons (r1.ext e2) (.cons r2 .nil)) (opD_mono q2 fun z S3 q3 => ?_) v u rfl
  cases z with
  | bl k => exact fun μ3 H3 v3 e3 r3 rd => ⟨k, rd.bl_inv, q3 μ3 H3 e3 r3⟩
  | _ => exact q3.elim
/-- a value as a test -/
theorem ct_val {e : Expr} {m : Tm} (h : CE G C hx X e m) (he : ∀ whole, isTrue e X.env whole = (do let v ← whole; standAt e.pos; holding [v] (truthy v)))
    (hC : MonoC C) : CT G C hx X e m := fun W tk x => by
  refine (pt_val (h W tk x) he).imp fun σ H Q ⟨μ, S, ρ, wd, q⟩ => ?_
  refine bindW (monoE hC m) wd q fun v H1 μ1 S1 d e1 w1 r1 q1 => ?_
  cases d with
  | bl k => exact ⟨k, r1.bl_inv, q1 μ1 H1 e1 w1.rel⟩
  | _ => exact q1.elim
theorem ct_not (hC : MonoC C) {a : Expr} {ma : Tm} {pos : Pos} (ha : CT G C hx X a ma) : CT G C hx X (.UnaryOp .Not a pos) (.op .bnot (.cons ma .nil)) := fun W tk x => by
  refine (pt_not (ha W tk x)).imp fun σ H Q ⟨μ, S, ρ, wd, q⟩ => ?_
  refine bindT (monoE hC ma) wd q (fun d S1 q1 => ?_) fun b H1 μ1 S1 e1 w1 q1 => q1 μ1 H1 e1 w1.rel
  cases d with
  | bl b => exact ⟨b, rfl⟩
  | _ => exact q1.elim
theorem ce_not (hC : MonoC C) {a : Expr} {ma : Tm} {pos : Pos} (ha : CE G C hx X a ma) : CE G C hx X (.UnaryOp .Not a pos) (.op .bnot (.cons ma .nil)) := fun W tk x => by
  refine (pe_not (ha W tk x)).imp fun σ H Q ⟨μ, S, ρ, wd, q⟩ => ?_
  refine bindW (monoE hC ma) wd q fun v H1 μ1 S1 d e1 w1 r1 q1 => ?_
  cases d with
  | bl b => exact ⟨b, r1.bl_inv, q1 μ1 H1 _ e1 w1.rel (.bl _)⟩
  | _ => exact q1.elim
/-! ### and, or -/
theorem CW.ct {e : Expr} {m : Tm} (h : CW G C hx X e m) : CT G C hx X e m := fun W tk x => (h W tk x).pt
theorem cw_and1 {a : Expr} {ma : Tm} {pos : Pos} (ha : CT G C hx X a ma) : CW G C hx X (.BoolOp .And [a] pos) ma := fun W tk x => pw_and1 (ha W tk x)
theorem cw_or1 {a : Expr} {ma : Tm} {pos : Pos} (ha : CT G C hx X a ma) : CW G C hx X (.BoolOp .Or [a] pos) ma := fun W tk x => pw_or1 (ha W tk x)
theorem cw_and (hC : MonoC C) {a b : Expr} {rest : List Expr} {ma mb : Tm} {pos : Pos} (ha : CT G C hx X a ma) (hb : CW G C hx X (.BoolOp .And (b :: rest) pos) mb) : CW G C hx X (.BoolOp .And (a :: b :: rest) pos) (.and ma mb) := fun W tk x => by
  refine (pw_and (ha W tk x) (hb W tk x)).imp fun σ H Q ⟨μ, S, ρ, wd, q⟩ => ?_
  refine bindT (monoE hC ma) wd q (fun d S1 q1 => ?_) fun b H1 μ1 S1 e1 w1 q1 => ?_
  · cases d with
    | bl b => exact ⟨b, rfl⟩
    | _ => exact q1.elim
  · cases b with
    | true =>
      rw [if_pos rfl]
      refine ⟨μ1, S1, ρ, w1, monoE hC mb _ _ _ _ _ _ (fun d S2 q2 => ?_) (fun _ _ z => z) q1⟩
      cases d with
      | bl b => exact fun μ2 H2 e2 r2 => q2 μ2 H2 (e1.trans e2) r2
      | _ => exact q2.elim
    | false => rw [if_neg Bool.false_ne_true]; exact q1 μ1 H1 e1 w1.rel
theorem cw_or (hC : MonoC C) {a b : Expr} {rest : List Expr} {ma mb : Tm} {pos : Pos} (ha : CT G C hx X a ma) (hb : CW G C hx X (.BoolOp .Or (b :: rest) pos) mb) : CW G C hx X (.BoolOp .Or (a :: b :: rest) pos) (.or ma mb) := fun W tk x => by
  refine (pw_or (ha W tk x) (hb W tk x)).imp fun σ H Q ⟨μ, S, ρ, wd, q⟩ => ?_
  refine bindT (monoE hC ma) wd q (fun d S1 q1 => ?_) fun b H1 μ1 S1 e1 w1 q1 => ?_
  · cases d with
    | bl b => exact ⟨b, rfl⟩
    | _ => exact q1.elim
  · cases b with
    | false =>
      rw [if_neg Bool.false_ne_true]
      refine ⟨μ1, S1, ρ, w1, monoE hC mb _ _ _ _ _ _ (fun d S2 q2 => ?_) (fun _ _ z => z) q1⟩
      cases d with
      | bl b => exact fun μ2 H2 e2 r2 => q2 μ2 H2 (e1.trans e2) r2
      | _ => exact q2.elim
    | true => rw [if_pos rfl]; exact q1 μ1 H1 e1 w1.rel
theorem ce_one {op : PySem.BoolOp} {a : Expr} {ma : Tm} {pos : Pos} (ha : CE G C hx X a ma) : CE G C hx X (.BoolOp op [a] pos) ma := fun W tk x => pe_one (ha W tk x)
theorem ce_and (hC : MonoC C) {a b : Expr} {rest : List Expr} {ma mb : Tm} {pos : Pos} (ha : CE G C hx X a ma) (hb : CE G C hx X (.BoolOp .And (b :: rest) pos) mb) : CE G C hx X (.BoolOp .And (a :: b :: rest) pos) (.and ma mb) := fun W tk x => by
  refine (pe_and (ha W tk x) (hb W tk x)).imp fun σ H Q ⟨μ, S, ρ, wd, q⟩ => ?_
  refine bindW (monoE hC ma) wd q fun v H1 μ1 S1 d e1 w1 r1 q1 => ?_
  cases d with
  | bl b =>
    refine ⟨b, r1.bl_inv, ?_⟩
    cases b with
    | true => rw [if_pos rfl]; exact bindW (monoE hC mb) w1 q1 fun v H2 μ2 S2 d e2 w2 r2 q2 => q2 μ2 H2 v (e1.trans e2) w2.rel r2
    | false => rw [if_neg Bool.false_ne_true]; exact q1 μ1 H1 _ e1 w1.rel (.bl _)
  | _ => exact q1.elim
theorem ce_chain (hC : MonoC C) {o1 o2 : Op} {op op' : CmpOp} {r r' : R2} {a b c : Expr} {ma mb mc : Tm} {pos : Pos} (ho : OpR X (compareOp op) r) (ho' : OpR X (compareOp op') r') (hv : VOk2 G X.K o1 r) (hv' : VOk2 G X.K o2 r')
    (ha : CE G C hx X a ma) (hb : CE G C hx X b mb) (hc : CE G C hx X c mc) (hm : lastMarks [op, op'] [b, c] = false) : CE G C hx X (.Compare a [op, op'] [b, c] pos) (.chain o1 o2 ma mb mc) := fun W tk x => by
  refine (pe_chain ho ho' (ha W tk x) (hb W tk x) (hc W tk x) hm).imp fun σ H Q ⟨μ, S, ρ, wd, q⟩ => ?_
  refine bindW (monoE hC ma) wd q fun v H1 μ1 S1 d e1 w1 r1 q1 => ?_
  refine bindW (monoE hC mb) w1 q1 fun u H2 μ2 S2 d' e2 w2 r2 q2 => ?_
  refine hv μ2 H2 μ2 S2 H2 [v, u] [d, d'] _ (Ext.refl _ _) w2.rel (.cons (r1.ext e2) (.cons r2 .nil)) (opD_mono q2 fun z S3 q3 => ?_) v u rfl
  cases z with
  | bl k =>
    intro μ3 H3 v3 e3 rel3 rd
    refine ⟨k, rd.bl_inv, ?_⟩
    cases k with
    | false => rw [if_neg Bool.false_ne_true]; exact q3 μ3 H3 _ ((e1.trans e2).trans e3) rel3 (.bl _)
    | true =>
      rw [if_pos rfl]
      refine bindW (monoE hC mc) (w2.next e3 rel3) q3 fun w H4 μ4 S4 d4 e4 w4 r4 q4 => ?_
      exact hv' μ H μ4 S4 H4 [u, w] [d', d4] Q (((e1.trans e2).trans e3).trans e4) w4.rel (.cons ((r2.ext e3).ext e4) (.cons r4 .nil)) q4 u w rfl
  | _ => exact q3.elim
end
end Mp
namespace Mp
open PySem L2 SX
section
variable {G : Gl} {K : PySem.W.Frag} {μ μ0 : Mu} {S : Sto} {H H0 : Hp} {Q : VK}
theorem RDs.inv2 {x y : V} {ds : List D} (h : RDs K μ H [x, y] ds) : ∃ d d', ds = [d, d'] ∧ RD K μ H x d ∧ RD K μ H y d' := by
  cases h with
  | cons h1 h2 => cases h2 with
    | cons h3 h4 => cases h4; exact ⟨_, _, rfl, h1, h3⟩
theorem RDs.inv1 {x : V} {ds : List D} (h : RDs K μ H [x] ds) : ∃ d, ds = [d] ∧ RD K μ H x d := by
  cases h with
  | cons h1 h2 => cases h2; exact ⟨_, rfl, h1⟩
theorem opD_some {T : Tab} {o : Op} {ds : List D} {S : Sto} {Q : PQ} (h : opD T o ds S Q) : ∃ d S', opF T o ds S = some (d, S') ∧ Q d S' := by
  unfold opD at h
  cases e : opF T o ds S with
  | none => rw [e] at h; exact h.elim
  | some p => rw [e] at h; exact ⟨p.1, p.2, rfl, h⟩
theorem LQ.give {d : D} {S : Sto} {v : V} (h : LQ G.N K μ0 H0 Q d S) (e : Ext μ0 H0 μ H) (R : Rel G.N K μ S H) (r : RD K μ H v d) : Q v H := h μ H v e R r
/-- a new object -/
theorem new_ob {ob : Ob} {o : HO} {p : Addr} (R : Rel G.N K μ S H) (e : Ext μ0 H0 μ H) (hn : H p = none) (n : RO G.N K (muAdd μ S.length p) (upd H p o) p ob) (h : LQ G.N K μ0 H0 Q (.ref S.length) (S ++ [ob])) : Q (.ref p) (upd H p o) :=
  h _ _ _ (e.trans (R.pushExt hn)) (R.push hn n) (.ref muAdd_self)
theorem new_lst {vs : List V} {ds : List D} {p : Addr} (R : Rel G.N K μ S H) (e : Ext μ0 H0 μ H) (hn : H p = none) (r : RDs K μ H vs ds) (h : LQ G.N K μ0 H0 Q (.ref S.length) (S ++ [.lst ds])) : Q (.ref p) (upd H p (.lst vs)) :=
  new_ob (ob := .lst ds) R e hn ⟨vs, upd_same, r.ext (R.pushExt hn)⟩ h
theorem new_tup {vs : List V} {ds : List D} {p : Addr} (R : Rel G.N K μ S H) (e : Ext μ0 H0 μ H) (hn : H p = none) (r : RDs K μ H vs ds) (h : LQ G.N K μ0 H0 Q (.tup ds) S) : Q (.ref p) (upd H p (.tup vs)) :=
  h _ _ _ (e.trans (Ext.upd (.inl hn))) (R.other (R.fresh hn) (.inl hn)) (.tup upd_same (r.ext (Ext.upd (.inl hn))))
theorem Rel.lst {r : Nat} {v : V} {ds : List D} (R : Rel G.N K μ S H) (h : RD K μ H v (.ref r)) (e : S[r]? = some (.lst ds)) : ∃ a vs, v = .ref a ∧ μ r = some a ∧ H a = some (.lst vs) ∧ RDs K μ H vs ds := by
  obtain ⟨a, rfl, h1, vs, h2, h3⟩ := R.ref h e
  exact ⟨a, vs, rfl, h1, h2, h3⟩
/-- a list to be read -/
theorem Rel.seq {v : V} {x : D} {ds : List D} (R : Rel G.N K μ S H) (h : RD K μ H v x) (e : seqD S x = some ds) : ∃ a vs, v = .ref a ∧ SqL K H a vs ∧ RDs K μ H vs ds := by
  cases x with
  | lis es =>
    cases e
    cases h with
    | lis h1 h2 => exact ⟨_, _, rfl, h1.sql, h2⟩
  | ref r =>
    have e : (S[r]?).bind seqOf = some ds := e
    cases q : S[r]? with
    | none => rw [q] at e; cases e
    | some ob =>
      rw [q] at e
      cases ob with
      | lst es =>
        cases e
        obtain ⟨a, vs, rfl, h1, h2, h3⟩ := R.lst h q
        exact ⟨a, vs, rfl, .inl (.inl h2), h3⟩
      | _ => cases e
  | _ => cases e
theorem SqT.ofT {a : Addr} {vs : List V} (h : H a = some (.tup vs)) : SqT K H a vs := .inl (.inl h)
/-! ### arithmetic -/
/-- a clean function of values says what a rule of values asks -/
def VOF (G : Gl) (K : PySem.W.Frag) (f : OpF) (r : List V → Hp → VK → Prop) : Prop :=
  ∀ (μ0 : Mu) (H0 : Hp) (μ : Mu) (S : Sto) (H : Hp) (vs : List V) (ds : List D) (Q : VK) (d : D) (S' : Sto), Ext μ0 H0 μ H → Rel G.N K μ S H → RDs K μ H vs ds → f ds S = some (d, S') → LQ G.N K μ0 H0 Q d S' → r vs H Q
def VOF2 (G : Gl) (K : PySem.W.Frag) (f : OpF) (r : R2) : Prop := VOF G K f fun vs H Q => ∀ x y, vs = [x, y] → r x y H Q
theorem VOF.ok {f : OpF} {r : List V → Hp → VK → Prop} {o : Op} (h : VOF G K f r) (e : opF G.T o = f) : VOk G K o r := fun μ0 H0 μ S H vs ds Q e0 R rd q => by
  obtain ⟨d, S', h1, h2⟩ := opD_some q
  rw [e] at h1
  exact h μ0 H0 μ S H vs ds Q d S' e0 R rd h1 h2
theorem VOF.or {f g : OpF} {r r' : List V → Hp → VK → Prop} (h : VOF G K f r) (h' : VOF G K g r') : VOF G K (orF f g) fun vs H Q => r vs H Q ∨ r' vs H Q := fun μ0 H0 μ S H vs ds Q d S' e0 R rd e q => by
  unfold orF at e
  split at e
  · rename_i z ez; cases e; exact .inl (h μ0 H0 μ S H vs ds Q d S' e0 R rd ez q)
  · exact .inr (h' μ0 H0 μ S H vs ds Q d S' e0 R rd e q)
theorem VOF2.or {f g : OpF} {r r' : R2} (h : VOF2 G K f r) (h' : VOF2 G K g r') : VOF2 G K (orF f g) fun x y H Q => r x y H Q ∨ r' x y H Q := fun μ0 H0 μ S H vs ds Q d S' e0 R rd e q x y hv => by
  unfold orF at e
  split at e
  · rename_i z ez; cases e; exact .inl (h μ0 H0 μ S H vs ds Q d S' e0 R rd ez q x y hv)
  · exact .inr (h' μ0 H0 μ S H vs ds Q d S' e0 R rd e q x y hv)
theorem VOF.imp {f : OpF} {r r' : List V → Hp → VK → Prop} (h : VOF G K f r) (i : ∀ vs H Q, r vs H Q → r' vs H Q) : VOF G K f r' := fun μ0 H0 μ S H vs ds Q d S' e0 R rd e q => i _ _ _ (h μ0 H0 μ S H vs ds Q d S' e0 R rd e q)
def rAddAll : R2 := fun x y H Q => rI0 (fun i j => .int (i + j)) x y H Q ∨ (∃ i j, x = .str i ∧ y = .str j ∧ i.length + j.length ≤ sizeLine ∧ Q (.str (i ++ j)) H) ∨ rCat x y H Q
theorem op_addAll {X : Cx} : OpR X (binaryOp .Add) rAddAll := op_add.or (op_add_str.or op_cat)
theorem lim_eq : (sizeLine : Nat) = LIM := sizeLine_eq
theorem vk_add : VOk2 G K .add rAddAll := by
  intro μ0 H0 μ S H vs ds Q e R rd h x y hvs
  subst hvs
  obtain ⟨d, d', rfl, h1, h2⟩ := rd.inv2
  obtain ⟨o, S', ho, q⟩ := opD_some h
  replace ho : oAdd [d, d'] S = some (o, S') := ho
  cases d with
  | int i =>
    cases d' with
    | int j => cases ho; exact .inl ⟨i, j, h1.int_inv, h2.int_inv, q.give e R (.int _)⟩
    | _ => cases ho
  | str a =>
    cases d' with
    | str b =>
      simp only [oAdd] at ho
      split at ho
      · rename_i hl
        cases ho
        refine .inr (.inl ⟨SX.S a, SX.S b, h1.str_inv, h2.str_inv, ?_, ?_⟩)
        · rw [S_len, S_len, lim_eq]; exact hl
        · rw [S_cat]; exact q.give e R (RD.str' (h1.cok.append h2.cok))
      · cases ho
    | _ => cases ho
  | ref r =>
    cases d' with
    | ref t =>
      simp only [oAdd] at ho
      split at ho
      · rename_i a b ea eb
        split at ho
        · rename_i hl
          cases ho
          obtain ⟨p, xs, rfl, g1, g2, g3⟩ := R.lst h1 ea
          obtain ⟨p', ys, rfl, g1', g2', g3'⟩ := R.lst h2 eb
          refine .inr (.inr ⟨p, p', xs, ys, rfl, rfl, g2, g2', ?_, fun n hn => new_lst R e hn (g3.append g3') q⟩)
          rw [g3.length, g3'.length, lim_eq]; exact hl
        · cases ho
      · cases ho
    | _ => cases ho
  | _ => cases ho
/-- an operator on two ints -/
theorem vk_int2 {o : Op} {f : OpF} {Cd : Int → Int → Prop} {g : Int → Int → D} {gv : Int → Int → V} (hf : opF G.T o = f) (hs : ∀ d d' S r, f [d, d'] S = some r → ∃ i j, d = .int i ∧ d' = .int j ∧ Cd i j ∧ r = (g i j, S))
    (hg : ∀ μ H i j, RD K μ H (gv i j) (g i j)) : VOk2 G K o (rI Cd gv) := by
  intro μ0 H0 μ S H vs ds Q e R rd h x y hvs
  subst hvs
  obtain ⟨d, d', rfl, h1, h2⟩ := rd.inv2
  obtain ⟨z, S', ho, q⟩ := opD_some h
  rw [hf] at ho
  obtain ⟨i, j, rfl, rfl, c, e2⟩ := hs _ _ _ _ ho
  cases e2
  exact ⟨i, j, h1.int_inv, h2.int_inv, c, q.give e R (hg _ _ i j)⟩
theorem vk_int20 {o : Op} {f : OpF} {g : Int → Int → D} {gv : Int → Int → V} (hf : opF G.T o = f) (hs : ∀ d d' S r, f [d, d'] S = some r → ∃ i j, d = .int i ∧ d' = .int j ∧ r = (g i j, S))
    (hg : ∀ μ H i j, RD K μ H (gv i j) (g i j)) : VOk2 G K o (rI0 gv) := by
  intro μ0 H0 μ S H vs ds Q e R rd h x y hvs
  subst hvs
  obtain ⟨d, d', rfl, h1, h2⟩ := rd.inv2
  obtain ⟨z, S', ho, q⟩ := opD_some h
  rw [hf] at ho
  obtain ⟨i, j, rfl, rfl, e2⟩ := hs _ _ _ _ ho
  cases e2
  exact ⟨i, j, h1.int_inv, h2.int_inv, q.give e R (hg _ _ i j)⟩
theorem vk_sub : VOk2 G K .sub (rI0 fun i j => .int (i - j)) := vk_int20 (f := oSub) (g := fun i j => .int (i - j)) rfl (fun d d' S r h => by
  cases d <;> cases d' <;> first | (cases h; exact ⟨_, _, rfl, rfl, rfl⟩) | cases h) fun _ _ _ _ => .int _
theorem vk_fdiv : VOk2 G K .fdiv (rI CDiv fun i j => .int (i / j)) := vk_int2 (f := oDiv) (g := fun i j => .int (i / j)) rfl (fun d d' S r h => by
  cases d <;> cases d' <;> first | (simp only [oDiv] at h; split at h <;> first | (rename_i c; cases h; exact ⟨_, _, rfl, rfl, c, rfl⟩) | cases h) | cases h) fun _ _ _ _ => .int _
theorem vk_mod : VOk2 G K .mod (rI (fun _ j => 0 < j) fun i j => .int (i % j)) := vk_int2 (f := oMod) (g := fun i j => .int (i % j)) rfl (fun d d' S r h => by
  cases d <;> cases d' <;> first | (simp only [oMod] at h; split at h <;> first | (rename_i c; cases h; exact ⟨_, _, rfl, rfl, c, rfl⟩) | cases h) | cases h) fun _ _ _ _ => .int _
theorem vk_pow : VOk2 G K .pow (rI CPow fun i j => .int (i ^ j.toNat)) := vk_int2 (f := oPow) (g := fun i j => .int (i ^ j.toNat)) rfl (fun d d' S r h => by
  cases d <;> cases d' <;> first | (simp only [oPow] at h; split at h <;> first | (rename_i c; cases h; exact ⟨_, _, rfl, rfl, c, rfl⟩) | cases h) | cases h) fun _ _ _ _ => .int _
theorem cmp_inv {p : Int → Int → Bool} : ∀ d d' S r, oCmp p [d, d'] S = some r → ∃ i j, d = .int i ∧ d' = .int j ∧ r = (.bl (p i j), S) := fun d d' S r h => by
  cases d <;> cases d' <;> first | (cases h; exact ⟨_, _, rfl, rfl, rfl⟩) | cases h
theorem vf_ltI : VOF2 G K (oCmp fun i j => decide (i < j)) (rI0 fun i j => .bl (decide (i < j))) := fun μ0 H0 μ S H vs ds Q d S' e0 R rd e q x y hv => by
  subst hv
  obtain ⟨a, b, rfl, h1, h2⟩ := rd.inv2
  obtain ⟨i, j, rfl, rfl, ee⟩ := cmp_inv _ _ _ _ e
  cases ee
  exact ⟨i, j, h1.int_inv, h2.int_inv, q.give e0 R (.bl _)⟩
theorem vk_le : VOk2 G K .le (rI0 fun i j => .bl (decide (i ≤ j))) := vk_int20 (f := oCmp fun i j => decide (i ≤ j)) (g := fun i j => .bl (decide (i ≤ j))) rfl cmp_inv fun _ _ _ _ => .bl _
theorem vk_gt : VOk2 G K .gt (rI0 fun i j => .bl (decide (j < i))) := vk_int20 (f := oCmp fun i j => decide (j < i)) (g := fun i j => .bl (decide (j < i))) rfl cmp_inv fun _ _ _ _ => .bl _
theorem vk_ge : VOk2 G K .ge (rI0 fun i j => .bl (decide (j ≤ i))) := vk_int20 (f := oCmp fun i j => decide (j ≤ i)) (g := fun i j => .bl (decide (j ≤ i))) rfl cmp_inv fun _ _ _ _ => .bl _
/-- i * j, text * int -/
def rMulS : R2 := fun x y H Q => ∃ a k, x = .str a ∧ y = .int k ∧ k.natAbs < 2 ^ 62 ∧ a.length * k.toNat ≤ sizeLine ∧ Q (.str (SX.S (List.replicate k.toNat a.cps.toList).flatten)) H
theorem cmul_of {i j : Int} (h : i.natAbs < 2 ^ 64 ∨ j.natAbs < 2 ^ 64) : CMul i j := by
  rcases h with h | h
  · exact .inl ⟨by omega, by omega⟩
  · exact .inr ⟨by omega, by omega⟩
def rMulAll : R2 := fun x y H Q => rI CMul (fun i j => .int (i * j)) x y H Q ∨ rMulS x y H Q
theorem vk_mul : VOk2 G K .mul rMulAll := by
  intro μ0 H0 μ S H vs ds Q e R rd h x y hvs
  subst hvs
  obtain ⟨d, d', rfl, h1, h2⟩ := rd.inv2
  obtain ⟨o, S', ho, q⟩ := opD_some h
  replace ho : oMul [d, d'] S = some (o, S') := ho
  cases d with
  | int i =>
    cases d' with
    | int j =>
      simp only [oMul] at ho
      split at ho
      · rename_i c; cases ho; exact .inl ⟨i, j, h1.int_inv, h2.int_inv, cmul_of c, q.give e R (.int _)⟩
      · cases ho
    | _ => cases ho
  | str a =>
    cases d' with
    | int k =>
      simp only [oMul] at ho
      split at ho
      · rename_i c; cases ho
        refine .inr ⟨SX.S a, k, h1.str_inv, h2.int_inv, c.1, ?_, ?_⟩
        · rw [S_len, lim_eq]; exact c.2
        · exact q.give e R (RD.str' (h1.cok.sub fun c hc => by
            obtain ⟨l, hl, hcl⟩ := List.mem_flatten.mp hc
            rw [List.eq_of_mem_replicate hl] at hcl; exact hcl))
      · cases ho
    | _ => cases ho
  | _ => cases ho
/-! ### is None -/
/-- one place: x is None -/
theorem isN_ok {x : V} {d : D} (h : RD K μ H x d) : decide (x = .non) = decide (d = .non) := by
  have := h.not_non
  simp [this]
end
end Mp
namespace Mp
open PySem L2
/-! ### == and in, of data -/
theorem mapM_cons {α β : Type} {f : α → Option β} {a : α} {l : List α} {r : List β} (h : (a :: l).mapM f = some r) : ∃ b bs, f a = some b ∧ l.mapM f = some bs ∧ r = b :: bs := by
  rw [List.mapM_cons] at h
  cases e : f a with
  | none => rw [e] at h; cases h
  | some b =>
    rw [e] at h
    cases e2 : l.mapM f with
    | none => rw [e2] at h; cases h
    | some bs => rw [e2] at h; cases h; exact ⟨b, bs, rfl, rfl, rfl⟩
theorem mapM_nil {α β : Type} {f : α → Option β} {r : List β} (h : ([] : List α).mapM f = some r) : r = [] := by cases h; rfl
theorem strOk_of {s : List Nat} (h : Cok s) : PySem.PyData.strOk ⟨s.toArray⟩ = true := by
  unfold PySem.PyData.strOk
  rw [← Array.all_toList, List.all_eq_true]
  intro c hc
  exact decide_eq_true (h c (by simpa using hc))
section
variable {G : Gl} {K : PySem.W.Frag} {μ μ0 : Mu} {S : Sto} {H H0 : Hp} {Q : VK}
theorem pds_ok {n : Nat} (R : Rel G.N K μ S H) (ih : ∀ d v p, RD K μ H v d → pd S n d = some p → Dp K H v p ∧ p.canLay0 = true ∧ p.depth ≤ n) :
    ∀ (ds : List D) (vs : List V) (ps : List PyData), RDs K μ H vs ds → ds.mapM (pd S n) = some ps → DpAll K H vs ps ∧ PyData.canLayAll0 ps = true ∧ PyData.depthAll ps ≤ n
  | [], vs, ps, h, e => by
    cases h
    rw [mapM_nil e]
    exact ⟨.nil, rfl, Nat.zero_le _⟩
  | d :: ds, vs, ps, h, e => by
    cases h with
    | cons h1 h2 =>
      obtain ⟨p, qs, e1, e2, rfl⟩ := mapM_cons e
      obtain ⟨a1, a2, a3⟩ := ih d _ p h1 e1
      obtain ⟨b1, b2, b3⟩ := pds_ok R ih ds _ qs h2 e2
      refine ⟨.cons a1 b1, ?_, ?_⟩
      · rw [PyData.canLayAll0, a2, b2]; rfl
      · rw [PyData.depthAll]; exact Nat.max_le.mpr ⟨a3, b3⟩
theorem pd_ok (R : Rel G.N K μ S H) : ∀ (n : Nat) (d : D) (v : V) (p : PyData), RD K μ H v d → pd S n d = some p → Dp K H v p ∧ p.canLay0 = true ∧ p.depth ≤ n
  | 0, d, v, p, h, e => by rw [pd] at e; cases e
  | n + 1, d, v, p, h, e => by
    cases d with
    | non => rw [pd] at e; cases e; cases h; exact ⟨.non, rfl, Nat.zero_le _⟩
    | bl b => rw [pd] at e; cases e; cases h; exact ⟨.bl _, rfl, Nat.zero_le _⟩
    | int i => rw [pd] at e; cases e; cases h; exact ⟨.int _, rfl, Nat.zero_le _⟩
    | str s => rw [pd] at e; cases e; cases h with | str hk => exact ⟨.str _, strOk_of hk, Nat.zero_le _⟩
    | tup ds =>
      rw [pd] at e
      obtain ⟨ps, e1, rfl⟩ := Option.map_eq_some_iff.mp e
      cases h with
      | tup h1 h2 =>
        obtain ⟨b1, b2, b3⟩ := pds_ok R (pd_ok R n) ds _ ps h2 e1
        exact ⟨.tup (.inl (.inl h1)) b1, b2, Nat.succ_le_succ b3⟩
    | lis ds =>
      rw [pd] at e
      obtain ⟨ps, e1, rfl⟩ := Option.map_eq_some_iff.mp e
      cases h with
      | lis h1 h2 =>
        obtain ⟨b1, b2, b3⟩ := pds_ok R (pd_ok R n) ds _ ps h2 e1
        exact ⟨.lst h1.sql b1, b2, Nat.succ_le_succ b3⟩
    | ref r =>
      rw [pd] at e
      obtain ⟨ps, e1, rfl⟩ := Option.map_eq_some_iff.mp e
      obtain ⟨ds, e2, e3⟩ := Option.bind_eq_some_iff.mp e1
      obtain ⟨a, vs, rfl, g1, g2⟩ := R.seq (x := .ref r) h e2
      obtain ⟨b1, b2, b3⟩ := pds_ok R (pd_ok R n) ds _ ps g2 e3
      exact ⟨.lst g1 b1, b2, Nat.succ_le_succ b3⟩
theorem shaped_of {p : PyData} (h : p.canLay0 = true) (k : p.depth ≤ 64) : SeqAt.shaped p = true := by
  unfold SeqAt.shaped
  rw [h, decide_eq_true k]; rfl
/-- two empty dicts -/
def rEqE (b : Bool) : R2 := fun x y H Q => ∃ p q kx ky, x = .ref p ∧ y = .ref q ∧ H p = some kx ∧ H q = some ky ∧ (kx = .dT [] ∨ kx = .dK []) ∧ (ky = .dT [] ∨ ky = .dK []) ∧ Q (.bl b) H
theorem emp_of {ob : Ob} {a : Addr} {t : Bool} (h : RO G.N K μ H a (.dic t false [])) : ∃ kx, H a = some kx ∧ (kx = .dT [] ∨ kx = .dK []) := by
  cases t with
  | false => obtain ⟨kv, h1, h2⟩ := h; cases h2; exact ⟨_, h1, .inr rfl⟩
  | true => obtain ⟨kv, h1, h2⟩ := h; cases h2; exact ⟨_, h1, .inl rfl⟩
theorem eqD_ok (R : Rel G.N K μ S H) {x y : V} {d d' : D} {k : Bool} (h1 : RD K μ H x d) (h2 : RD K μ H y d') (e : eqD S d d' = some k) :
    (∃ p q, Dp K H x p ∧ Dp K H y q ∧ SeqAt.shaped p = true ∧ SeqAt.shaped q = true ∧ k = PyData.eqv p q) ∨
    (k = true ∧ ∃ p q kx ky, x = .ref p ∧ y = .ref q ∧ H p = some kx ∧ H q = some ky ∧ (kx = .dT [] ∨ kx = .dK []) ∧ (ky = .dT [] ∨ ky = .dK [])) := by
  unfold eqD at e
  split at e
  · rename_i p q e1 e2
    cases e
    obtain ⟨a1, a2, a3⟩ := pd_ok R _ _ _ _ h1 e1
    obtain ⟨b1, b2, b3⟩ := pd_ok R _ _ _ _ h2 e2
    exact .inl ⟨p, q, a1, b1, shaped_of a2 (by omega), shaped_of b2 (by omega), rfl⟩
  · split at e
    · rename_i r q
      split at e
      · rename_i t l t' l' e1 e2
        split at e
        · rename_i hl
          cases e
          obtain ⟨a, rfl, g1, g2⟩ := R.ref h1 e1
          obtain ⟨a', rfl, g1', g2'⟩ := R.ref h2 e2
          cases hl.1; cases hl.2
          obtain ⟨kx, i1, i2⟩ := emp_of (ob := .lst []) g2
          obtain ⟨ky, j1, j2⟩ := emp_of (ob := .lst []) g2'
          exact .inr ⟨rfl, a, a', kx, ky, rfl, rfl, i1, j1, i2, j2⟩
        · cases e
      · cases e
    · cases e
theorem vk_eq : VOk2 G K .eq (fun x y H Q => rEqD K x y H Q ∨ rEqE true x y H Q) := by
  intro μ0 H0 μ S H vs ds Q e R rd h x y hvs
  subst hvs
  obtain ⟨d, d', rfl, h1, h2⟩ := rd.inv2
  obtain ⟨o, S', ho, q⟩ := opD_some h
  replace ho : oEq [d, d'] S = some (o, S') := ho
  obtain ⟨k, hk, e2⟩ := Option.map_eq_some_iff.mp ho
  cases e2
  have g := q.give e R (.bl k)
  rcases eqD_ok R h1 h2 hk with ⟨p, t, a1, a2, a3, a4, rfl⟩ | ⟨rfl, p, t, kx, ky, a1, a2, a3, a4, a5, a6⟩
  · exact .inl ⟨p, t, a1, a2, a3, a4, g⟩
  · exact .inr ⟨p, t, kx, ky, a1, a2, a3, a4, a5, a6, g⟩
theorem vk_ne : VOk2 G K .ne (fun x y H Q => rNeD K x y H Q ∨ rEqE false x y H Q) := by
  intro μ0 H0 μ S H vs ds Q e R rd h x y hvs
  subst hvs
  obtain ⟨d, d', rfl, h1, h2⟩ := rd.inv2
  obtain ⟨o, S', ho, q⟩ := opD_some h
  replace ho : oNe [d, d'] S = some (o, S') := ho
  obtain ⟨k, hk, e2⟩ := Option.map_eq_some_iff.mp ho
  cases e2
  have g := q.give e R (.bl (!k))
  rcases eqD_ok R h1 h2 hk with ⟨p, t, a1, a2, a3, a4, rfl⟩ | ⟨rfl, p, t, kx, ky, a1, a2, a3, a4, a5, a6⟩
  · exact .inl ⟨p, t, a1, a2, a3, a4, g⟩
  · exact .inr ⟨p, t, kx, ky, a1, a2, a3, a4, a5, a6, g⟩
/-! ### in -/
def rInS (neg : Bool) : R2 := fun x y H Q => ∃ (c : Nat) (z : Str), x = .str ⟨#[c]⟩ ∧ y = .str z ∧ Q (.bl (if neg then !decide (c ∈ z.cps.toList) else decide (c ∈ z.cps.toList))) H
theorem vf_inS (neg : Bool) : VOF2 G K (oInStr neg) (rInS neg) := fun μ0 H0 μ S H vs ds Q d S' e R rd h q x y hv => by
  subst hv
  obtain ⟨a, b, rfl, h1, h2⟩ := rd.inv2
  unfold oInStr at h
  split at h
  · rename_i S2 c s e1
    cases h
    cases e1
    exact ⟨c, ⟨s.toArray⟩, h1.str_inv, h2.str_inv, q.give e R (.bl _)⟩
  · cases h
theorem inD_ok (R : Rel G.N K μ S H) {x y : V} {d z : D} {ds : List D} {k : Bool} (h1 : RD K μ H x d) (h2 : RD K μ H y z) (e : seqD S z = some ds) (e2 : inD S d ds = some k) :
    ∃ p ps, Dp K H x p ∧ Dp K H y (.list ps) ∧ SeqAt.shaped p = true ∧ SeqAt.shaped (.list ps) = true ∧ k = ps.any fun z => PyData.eqv z p := by
  unfold inD at e2
  split at e2
  · rename_i p qs e3 e4
    cases e2
    obtain ⟨a1, a2, a3⟩ := pd_ok R _ _ _ _ h1 e3
    obtain ⟨a, vs, rfl, g1, g2⟩ := R.seq h2 e
    obtain ⟨b1, b2, b3⟩ := pds_ok R (pd_ok R 12) ds _ qs g2 e4
    refine ⟨p, qs, a1, .lst g1 b1, shaped_of a2 (by omega), shaped_of b2 ?_, rfl⟩
    rw [PyData.depth]; omega
  · cases e2
def rInQ (K : PySem.W.Frag) (neg : Bool) : R2 := if neg then rNotInD K else rInD K
theorem vf_inQ (neg : Bool) : VOF2 G K (oInSeq neg) (rInQ K neg) := fun μ0 H0 μ S H vs ds Q d S' e R rd h q x y hv => by
  subst hv
  obtain ⟨a, b, rfl, h1, h2⟩ := rd.inv2
  unfold oInSeq at h
  simp only at h
  split at h
  · rename_i es hs
    obtain ⟨k, hk, e2⟩ := Option.map_eq_some_iff.mp h
    cases e2
    obtain ⟨p, ps, c1, c2, c3, c4, rfl⟩ := inD_ok R h1 h2 hs hk
    have g := q.give e R (.bl _)
    cases neg
    · exact ⟨p, ps, c1, c2, c3, c4, g⟩
    · exact ⟨p, ps, c1, c2, c3, c4, g⟩
  · cases h
/-! ### keys of dicts -/
theorem key1_kV {v : V} {d : D} {k : L2.Key} (h : RD K μ H v d) (e : key1 d = some k) : v = kV k := by
  cases d with
  | int i => cases e; exact h.int_inv
  | str s => cases e; exact h.str_inv
  | _ => cases e
theorem keyT_kV {ks : List L2.Key} : ∀ {ds : List D} {vs : List V} {ks : List L2.Key}, RDs K μ H vs ds → ds.mapM key1 = some ks → vs = ks.map kV
  | [], vs, ks, h, e => by cases h; rw [mapM_nil e]; rfl
  | d :: ds, vs, ks, h, e => by
    cases h with
    | cons h1 h2 =>
      obtain ⟨k, ks', e1, e2, rfl⟩ := mapM_cons e
      rw [key1_kV h1 e1, keyT_kV (ks := []) h2 e2]; rfl
theorem key_at {v : V} {d : D} {ks : List L2.Key} (h : RD K μ H v d) (e : keyT d = some ks) : ∃ b, v = .ref b ∧ H b = some (.tup (ks.map kV)) := by
  cases d with
  | tup ds =>
    obtain ⟨a, vs, rfl, h1, h2⟩ := h.tup_inv
    rw [keyT_kV (ks := []) h2 e] at h1
    exact ⟨a, rfl, h1⟩
  | _ => cases e
theorem key1_inj {a b : D} {k : L2.Key} (h : key1 a = some k) (h' : key1 b = some k) : a = b := by
  cases a with
  | int i =>
    cases h
    cases b with
    | int j => cases h'; rfl
    | str s => cases h'
    | _ => cases h'
  | str s =>
    cases h
    cases b with
    | int j => cases h'
    | str t =>
      have e : (Sum.inr (⟨t.toArray⟩ : Str) : L2.Key) = Sum.inr ⟨s.toArray⟩ := Option.some.inj h'
      have e2 : (⟨t.toArray⟩ : Str) = ⟨s.toArray⟩ := Sum.inr.inj e
      have e3 : t.toArray = s.toArray := congrArg Str.cps e2
      have e4 : t = s := by simpa using congrArg Array.toList e3
      rw [e4]
    | _ => cases h'
  | _ => cases h
theorem keys1_inj : ∀ {a b : List D} {ks : List L2.Key}, a.mapM key1 = some ks → b.mapM key1 = some ks → a = b
  | [], b, ks, h, h' => by
    rw [mapM_nil h] at h'
    cases b with
    | nil => rfl
    | cons x b => obtain ⟨_, _, _, _, z⟩ := mapM_cons h'; cases z
  | x :: a, b, ks, h, h' => by
    obtain ⟨k, ks', e1, e2, rfl⟩ := mapM_cons h
    cases b with
    | nil => cases mapM_nil h'
    | cons y b =>
      obtain ⟨k2, ks2, e3, e4, z⟩ := mapM_cons h'
      cases z
      rw [key1_inj e1 e3, keys1_inj e2 e4]
theorem keyT_inj {a b : D} {k : List L2.Key} (h : keyT a = some k) (h' : keyT b = some k) : a = b := by
  cases a with
  | tup a =>
    cases b with
    | tup b => exact congrArg D.tup (keys1_inj h h')
    | _ => cases h'
  | _ => cases h
theorem look_cons {d e k : D} {kvs : List (D × D)} : look ((d, e) :: kvs) k = if d = k then some e else look kvs k := by
  unfold look
  rw [List.find?_cons]
  by_cases h : d = k
  · simp [h]
  · simp [h]
theorem valV_cons {κ : Type} [DecidableEq κ] {k k' : κ} {v : V} {kvs : List (κ × V)} : valV ((k, v) :: kvs) k' = if k = k' then some v else valV kvs k' := by
  unfold valV
  rw [List.find?_cons]
  by_cases h : k = k'
  · simp [h]
  · simp [h]
def OptR (K : PySem.W.Frag) (μ : Mu) (H : Hp) : Option V → Option D → Prop
  | some v, some d => RD K μ H v d
  | none, none => True
  | _, _ => False
theorem OptR.some_of {o : Option V} {d : D} (h : OptR K μ H o (some d)) : ∃ v, o = some v ∧ RD K μ H v d := by
  cases o with
  | some v => exact ⟨v, rfl, h⟩
  | none => exact h.elim
theorem OptR.isSome {o : Option V} {d : Option D} (h : OptR K μ H o d) : o.isSome = d.isSome := by
  cases o <;> cases d <;> first | rfl | exact h.elim
theorem OptR.getD {o : Option V} {d : Option D} {v : V} {x : D} (h : OptR K μ H o d) (r : RD K μ H v x) : RD K μ H (o.getD v) (d.getD x) := by
  cases o <;> cases d <;> first | exact r | exact h | exact h.elim
theorem RKT.look {kv : List (List L2.Key × V)} {kvs : List (D × D)} (h : RKT K μ H kv kvs) {k : D} {ks : List L2.Key} (e : keyT k = some ks) : OptR K μ H (valV kv ks) (look kvs k) := by
  induction h with
  | nil => exact trivial
  | @cons k' v kv ds e' kvs h1 h0 h2 h3 ih =>
    rw [look_cons, valV_cons]
    by_cases hk : (D.tup ds) = k
    · subst hk
      rw [show keyT (.tup ds) = some k' from h1] at e; cases e
      rw [if_pos rfl, if_pos rfl]; exact h2
    · have hn : k' ≠ ks := fun z => hk (keyT_inj (a := .tup ds) h1 (z ▸ e))
      rw [if_neg hk, if_neg hn]; exact ih
theorem RK1.look {kv : List (L2.Key × V)} {kvs : List (D × D)} (h : RK1 K μ H kv kvs) {k : D} {ks : L2.Key} (e : key1 k = some ks) : OptR K μ H (valV kv ks) (look kvs k) := by
  induction h with
  | nil => exact trivial
  | @cons k' v kv d e' kvs h1 h0 h2 h3 ih =>
    rw [look_cons, valV_cons]
    by_cases hk : d = k
    · subst hk
      rw [h1] at e; cases e
      rw [if_pos rfl, if_pos rfl]; exact h2
    · have hn : k' ≠ ks := fun z => hk (key1_inj h1 (z ▸ e))
      rw [if_neg hk, if_neg hn]; exact ih
theorem RKT.length {kv : List (List L2.Key × V)} {kvs : List (D × D)} (h : RKT K μ H kv kvs) : kv.length = kvs.length := by
  induction h with
  | nil => rfl
  | cons _ _ _ _ ih => simp [ih]
theorem RK1.length {kv : List (L2.Key × V)} {kvs : List (D × D)} (h : RK1 K μ H kv kvs) : kv.length = kvs.length := by
  induction h with
  | nil => rfl
  | cons _ _ _ _ ih => simp [ih]
/-- what the dict at r holds at a key -/
theorem dget_ok (R : Rel G.N K μ S H) {x y : V} {r : Nat} {k : D} {t lk : Bool} {kvs : List (D × D)} (h1 : RD K μ H x (.ref r)) (h2 : RD K μ H y k) (e : S[r]? = some (.dic t lk kvs)) (hk : keyOk t k = true) :
    ∃ a o, x = .ref a ∧ DGet H a y o ∧ OptR K μ H o (look kvs k) ∧ IsD H a := by
  obtain ⟨a, rfl, g1, g2⟩ := R.ref h1 e
  cases t with
  | false =>
    obtain ⟨kk, hkk⟩ := Option.isSome_iff_exists.mp (show (key1 k).isSome = true from hk)
    cases lk with
    | false =>
      obtain ⟨kv, i1, i2⟩ := g2
      exact ⟨a, _, rfl, .inl ⟨kv, kk, .inl i1, key1_kV h2 hkk, rfl⟩, i2.look hkk, .inl ⟨kv, .inl i1⟩⟩
    | true =>
      obtain ⟨o, kv, i1, i2⟩ := g2
      exact ⟨a, _, rfl, .inl ⟨kv, kk, .inr ⟨o, i1⟩, key1_kV h2 hkk, rfl⟩, i2.look hkk, .inl ⟨kv, .inr ⟨o, i1⟩⟩⟩
  | true =>
    obtain ⟨kk, hkk⟩ := Option.isSome_iff_exists.mp (show (keyT k).isSome = true from hk)
    obtain ⟨b, rfl, hb⟩ := key_at h2 hkk
    cases lk with
    | false =>
      obtain ⟨kv, i1, i2⟩ := g2
      exact ⟨a, _, rfl, .inr ⟨kv, kk, b, .inl i1, rfl, hb, rfl⟩, i2.look hkk, .inr ⟨kv, .inl i1⟩⟩
    | true =>
      obtain ⟨o, kv, i1, i2⟩ := g2
      exact ⟨a, _, rfl, .inr ⟨kv, kk, b, .inr ⟨o, i1⟩, rfl, hb, rfl⟩, i2.look hkk, .inr ⟨kv, .inr ⟨o, i1⟩⟩⟩
def rInDt (neg : Bool) : R2 := fun y x H Q => ∃ a o, x = .ref a ∧ DGet H a y o ∧ Q (.bl (if neg then !o.isSome else o.isSome)) H
theorem vf_inDt (neg : Bool) : VOF2 G K (oInDic neg) (rInDt neg) := fun μ0 H0 μ S H vs ds Q d S' e R rd h q x y hv => by
  subst hv
  obtain ⟨a, b, rfl, h1, h2⟩ := rd.inv2
  unfold oInDic at h
  split at h
  · rename_i k r S2 e1
    cases e1
    split at h
    · rename_i t lk kvs es
      split at h
      · rename_i hk
        cases h
        obtain ⟨p, o, rfl, g1, g2, _⟩ := dget_ok R h2 h1 es hk
        refine ⟨p, o, rfl, g1, ?_⟩
        rw [g2.isSome]
        exact q.give e R (.bl _)
      · cases h
    · cases h
  · cases h
def rInn (K : PySem.W.Frag) (neg : Bool) : R2 := fun x y H Q => rInS neg x y H Q ∨ rInQ K neg x y H Q ∨ rInDt neg x y H Q
theorem vk_inn : VOk2 G K .inn (rInn K false) := VOF.ok (f := orF (oInStr false) (orF (oInSeq false) (oInDic false))) ((vf_inS false).or ((vf_inQ false).or (vf_inDt false))) rfl
theorem vk_nin : VOk2 G K .nin (rInn K true) := VOF.ok (f := orF (oInStr true) (orF (oInSeq true) (oInDic true))) ((vf_inS true).or ((vf_inQ true).or (vf_inDt true))) rfl
end
end Mp
namespace Mp
open PySem L2
section
variable {G : Gl} {K : PySem.W.Frag} {μ μ0 : Mu} {S : Sto} {H H0 : Hp} {Q : VK}
theorem atI_mem {α : Type} {xs : List α} {i : Int} {c : α} (h : L2.atI xs i = some c) : c ∈ xs := by
  unfold L2.atI at h
  obtain ⟨j, _, e⟩ := Option.bind_eq_some_iff.mp h
  exact List.mem_of_getElem? e
theorem Cok.one {a : List Nat} {c : Nat} (h : Cok a) (k : c ∈ a) : Cok [c] := fun x hx => by
  simp at hx; subst hx; exact h _ k
/-! ### x[i] -/
theorem vf_ix : VOF2 G K oIx (rIx K) := fun μ0 H0 μ S H vs ds Q d S' e R rd h q x y hv => by
  subst hv
  obtain ⟨a, b, rfl, h1, h2⟩ := rd.inv2
  cases b with
  | int i =>
    cases a with
    | str s =>
      simp only [oIx] at h
      split at h
      · rename_i hl
        obtain ⟨c, hc, e2⟩ := Option.map_eq_some_iff.mp h
        cases e2
        refine .inr (.inr ⟨⟨s.toArray⟩, i, c, h1.str_inv, h2.int_inv, ?_, hc, q.give e R (RD.str' (h1.cok.one (atI_mem hc)))⟩)
        rw [SX.S_len, lim_eq]; exact hl
      · cases h
    | tup ds =>
      simp only [oIx] at h
      obtain ⟨c, hc, e2⟩ := Option.map_eq_some_iff.mp h
      cases e2
      obtain ⟨p, vs, rfl, g1, g2⟩ := h1.tup_inv
      obtain ⟨v, i1, i2⟩ := g2.atI hc
      exact .inr (.inl ⟨p, vs, i, v, rfl, h2.int_inv, (Mp.SqT.ofT g1), i1, q.give e R i2⟩)
    | lis ds =>
      simp only [oIx] at h
      split at h
      · rename_i es hs
        obtain ⟨c, hc, e2⟩ := Option.map_eq_some_iff.mp h
        cases e2
        obtain ⟨p, vs, rfl, g1, g2⟩ := R.seq h1 hs
        obtain ⟨v, i1, i2⟩ := g2.atI hc
        exact .inl ⟨p, vs, i, v, rfl, h2.int_inv, g1, i1, q.give e R i2⟩
      · cases h
    | ref r =>
      simp only [oIx] at h
      split at h
      · rename_i es hs
        obtain ⟨c, hc, e2⟩ := Option.map_eq_some_iff.mp h
        cases e2
        obtain ⟨p, vs, rfl, g1, g2⟩ := R.seq h1 hs
        obtain ⟨v, i1, i2⟩ := g2.atI hc
        exact .inl ⟨p, vs, i, v, rfl, h2.int_inv, g1, i1, q.give e R i2⟩
      · cases h
    | _ => cases h
  | _ => cases a <;> cases h
def rDGet : R2 := fun x y H Q => ∃ a v, x = .ref a ∧ DGet H a y (some v) ∧ Q v H
theorem vf_ixD : VOF2 G K oIxD rDGet := fun μ0 H0 μ S H vs ds Q d S' e R rd h q x y hv => by
  subst hv
  obtain ⟨a, b, rfl, h1, h2⟩ := rd.inv2
  unfold oIxD at h
  split at h
  · rename_i S2 r k e1
    cases e1
    split at h
    · rename_i t lk kvs es
      split at h
      · rename_i hk
        obtain ⟨c, hc, e2⟩ := Option.map_eq_some_iff.mp h
        cases e2
        obtain ⟨p, o, rfl, g1, g2, _⟩ := dget_ok R h1 h2 es hk
        rw [hc] at g2
        obtain ⟨v, rfl, g3⟩ := g2.some_of
        exact ⟨p, v, rfl, g1, q.give e R g3⟩
      · cases h
    · cases h
  · cases h
theorem vk_ix : VOk2 G K .ix (fun x y H Q => rIx K x y H Q ∨ rDGet x y H Q) := VOF.ok (f := orF oIx oIxD) (vf_ix.or vf_ixD) rfl
/-! ### slices -/
def rSl (K : PySem.W.Frag) : V → Option Int → Option Int → Hp → VK → Prop := fun x lo hi H Q => rSlS x lo hi H Q ∨ rSlT K x lo hi H Q ∨ rSlL K x lo hi H Q
theorem sl_all {X : Cx} : SlR X (rSl X.K) := sl_str.or (sl_tup.or sl_list)
theorem RDs.cut {vs : List V} {ds : List D} (h : RDs K μ H vs ds) (a b : Nat) : RDs K μ H ((vs.drop a).take b) ((ds.drop a).take b) := (h.drop a).take b
theorem cut_ok {lo hi : Nat → Nat} {l u : Option Int} (hlo : ∀ n, HT.sIx n 0 l = lo n) (hhi : ∀ n, HT.sIx n n u = hi n) {x : V} {d o : D} {S' : Sto} (e : Ext μ0 H0 μ H) (R : Rel G.N K μ S H) (h1 : RD K μ H x d) (h : cutF lo hi d S = some (o, S')) (q : LQ G.N K μ0 H0 Q o S') :
    rSl K x l u H Q := by
  have seq : ∀ es : List D, seqD S d = some es → LQ G.N K μ0 H0 Q (.ref S.length) (S ++ [.lst ((es.drop (lo es.length)).take (hi es.length - lo es.length))]) → rSl K x l u H Q := fun es hs q => by
    obtain ⟨p, vs, rfl, g1, g2⟩ := R.seq h1 hs
    refine .inr (.inr ⟨p, vs, rfl, g1, fun n hn => ?_⟩)
    refine new_lst R e hn ?_ q
    unfold cutV
    rw [hlo, hhi, g2.length]
    exact g2.cut _ _
  cases d with
  | str s =>
    simp only [cutF] at h
    split at h
    · rename_i hl
      cases h
      refine .inl ⟨⟨s.toArray⟩, h1.str_inv, by rw [SX.S_len, lim_eq]; exact hl, ?_⟩
      unfold cutS
      rw [SX.S_len, hlo, hhi]
      exact q.give e R (RD.str' (h1.cok.sub fun c hc => List.mem_of_mem_drop (List.mem_of_mem_take hc)))
    · cases h
  | tup ds =>
    simp only [cutF] at h
    split at h
    · rename_i hl
      cases h
      obtain ⟨p, vs, rfl, g1, g2⟩ := h1.tup_inv
      refine .inr (.inl ⟨p, vs, rfl, (Mp.SqT.ofT g1), ?_, fun n hn => ?_⟩)
      · rw [hlo, hhi, g2.length]
        rintro ⟨z1, z2⟩
        rw [z1, z2] at hl
        simp at hl
      · refine new_tup R e hn ?_ q
        unfold cutV
        rw [hlo, hhi, g2.length]
        exact g2.cut _ _
    · cases h
  | lis ds =>
    simp only [cutF] at h
    split at h
    · rename_i es hs; cases h; exact seq es hs q
    · cases h
  | ref r =>
    simp only [cutF] at h
    split at h
    · rename_i es hs; cases h; exact seq es hs q
    · cases h
  | non => simp [cutF, seqD] at h
  | bl b => simp [cutF, seqD] at h
  | int i => simp [cutF, seqD] at h
theorem sIx_clip {n d : Nat} {i : Int} (h : 0 ≤ i) : HT.sIx n d (some i) = clip i n := by
  show (if i < 0 then (i + (n : Int)).toNat else min i.toNat n) = min i.toNat n
  rw [if_neg (by omega)]
/-! ### displays, calls of built-ins -/
theorem vk_tup : VOk G K .tup (fun vs H Q => vs.length ≤ sizeLine ∧ ∀ p, H p = none → Q (.ref p) (upd H p (.tup vs))) := VOF.ok (f := oTup) (fun μ0 H0 μ S H vs ds Q d S' e R rd h q => by
  unfold oTup at h
  split at h
  · rename_i hl
    cases h
    exact ⟨by rw [rd.length, lim_eq]; exact hl, fun p hn => new_tup R e hn rd q⟩
  · cases h) rfl
theorem vk_lst : VOk G K .lst (fun vs H Q => vs.length ≤ sizeLine ∧ ∀ p, H p = none → Q (.ref p) (upd H p (.lst vs))) := VOF.ok (f := oLst) (fun μ0 H0 μ S H vs ds Q d S' e R rd h q => by
  unfold oLst at h
  split at h
  · rename_i hl
    cases h
    exact ⟨by rw [rd.length, lim_eq]; exact hl, fun p hn => new_lst R e hn rd q⟩
  · cases h) rfl
theorem RDs.none_of {ds : List D} (h : RDs K μ H [] ds) : ds = [] := by cases h; rfl
theorem vk_dnT : VOk G K .dnT (fun vs H Q => vs = [] → ∀ p, H p = none → Q (.ref p) (upd H p (.dT []))) := VOF.ok (f := oNew true) (fun μ0 H0 μ S H vs ds Q d S' e R rd h q hv p hn => by
  subst hv
  cases rd.none_of
  cases h
  exact new_ob (ob := .dic true false []) R e hn ⟨[], upd_same, .nil⟩ q) rfl
/-- len(x) -/
def rLen (K : PySem.W.Frag) : List V → Hp → VK → Prop := fun xs H Q => (∃ x n, xs = [x] ∧ LenV K x H n ∧ Q (.int n) H) ∨ rLenT xs H Q ∨ (∃ a kvs, xs = [V.ref a] ∧ H a = some (.dK kvs) ∧ Q (.int kvs.length) H)
theorem call_lenD' {X : Cx} : CallR X (.builtin "len") (fun xs H Q => ∃ a kvs, xs = [V.ref a] ∧ H a = some (.dK kvs) ∧ Q (.int kvs.length) H) := call_lenD
theorem CallR.or' {X : Cx} {f : Value} {r r' : List V → Hp → VK → Prop} (h : CallR X f r) (h' : CallR X f r') : CallR X f (fun xs H Q => r xs H Q ∨ r' xs H Q) := by
  intro pins s σ H xs us Q I rx q
  rcases q with q | q
  · exact h pins s σ H xs us Q I rx q
  · exact h' pins s σ H xs us Q I rx q
theorem call_lenAll {X : Cx} : CallR X (.builtin "len") (rLen X.K) := CallR.or' call_len (CallR.or' call_len_dT call_lenD')
theorem vf_len : VOF G K oLen (fun xs H Q => ∀ x, xs = [x] → ∃ n, LenV K x H n ∧ Q (.int n) H) := fun μ0 H0 μ S H vs ds Q d S' e R rd h q x hv => by
  subst hv
  obtain ⟨a, rfl, h1⟩ := rd.inv1
  have seq : ∀ es : List D, seqD S a = some es → LQ G.N K μ0 H0 Q (.int es.length) S → ∃ n, LenV K x H n ∧ Q (.int n) H := fun es hs q => by
    obtain ⟨p, vs, rfl, g1, g2⟩ := R.seq h1 hs
    exact ⟨_, .inl ⟨vs, g1, g2.length.symm⟩, q.give e R (.int _)⟩
  cases a with
  | str s =>
    simp only [oLen] at h
    split at h
    · rename_i hl
      cases h
      rw [h1.str_inv]
      exact ⟨s.length, ⟨by rw [SX.S_len, lim_eq]; exact hl, (SX.S_len _).symm⟩, q.give e R (.int _)⟩
    · cases h
  | tup ds =>
    simp only [oLen] at h
    cases h
    obtain ⟨p, vs, rfl, g1, g2⟩ := h1.tup_inv
    exact ⟨_, .inr ⟨vs, (Mp.SqT.ofT g1), g2.length.symm⟩, q.give e R (.int _)⟩
  | lis ds =>
    obtain ⟨es, hs, e2⟩ := Option.map_eq_some_iff.mp (show (seqD S (.lis ds)).map (fun ds => ((.int ds.length : D), S)) = some (d, S') from h)
    cases e2; exact seq es hs q
  | ref r =>
    obtain ⟨es, hs, e2⟩ := Option.map_eq_some_iff.mp (show (seqD S (.ref r)).map (fun ds => ((.int ds.length : D), S)) = some (d, S') from h)
    cases e2; exact seq es hs q
  | non => cases h
  | bl b => cases h
  | int i => cases h
theorem vf_lenD : VOF G K oLenD (fun xs H Q => ∀ x, xs = [x] → ∃ a, x = .ref a ∧ ((∃ kvs, H a = some (.dT kvs) ∧ Q (.int ((kvs.length : Nat) : Int)) H) ∨ (∃ kvs, H a = some (.dK kvs) ∧ Q (.int kvs.length) H))) := fun μ0 H0 μ S H vs ds Q d S' e R rd h q x hv => by
  subst hv
  obtain ⟨a, rfl, h1⟩ := rd.inv1
  unfold oLenD at h
  split at h
  · rename_i S2 r e1
    cases e1
    split at h
    · rename_i t kvs es
      cases h
      obtain ⟨p, rfl, g1, g2⟩ := R.ref h1 es
      cases t with
      | true =>
        obtain ⟨kv, i1, i2⟩ := g2
        refine ⟨p, rfl, .inl ⟨kv, i1, ?_⟩⟩
        rw [i2.length]; exact q.give e R (.int _)
      | false =>
        obtain ⟨kv, i1, i2⟩ := g2
        refine ⟨p, rfl, .inr ⟨kv, i1, ?_⟩⟩
        rw [i2.length]; exact q.give e R (.int _)
    · cases h
  · cases h
theorem one_arg {f : OpF} {r : V → Hp → VK → Prop} (hf : ∀ ds S z, f ds S = some z → ds.length = 1) (h : VOF G K f fun xs H Q => ∀ x, xs = [x] → r x H Q) : VOF G K f fun xs H Q => ∃ x, xs = [x] ∧ r x H Q := fun μ0 H0 μ S H vs ds Q d S' e R rd hh q => by
  have hl := hf _ _ _ hh
  rw [← rd.length] at hl
  cases vs with
  | nil => simp at hl
  | cons x vs =>
    cases vs with
    | nil => exact ⟨x, rfl, h μ0 H0 μ S H _ _ Q d S' e R rd hh q x rfl⟩
    | cons _ _ => simp at hl
theorem vk_len : VOk G K .len (rLen K) := by
  refine VOF.ok (f := orF oLen oLenD) ?_ rfl
  refine VOF.imp (VOF.or (one_arg (fun ds S z h => ?_) vf_len) (one_arg (fun ds S z h => ?_) vf_lenD)) fun vs H Q h => ?_
  · rcases ds with _ | ⟨a, _ | ⟨b, t⟩⟩
    · cases h
    · rfl
    · unfold oLen at h; split at h <;> first | (rename_i z; cases z) | cases h
  · unfold oLenD at h
    split at h
    · rfl
    · cases h
  · rcases h with ⟨x, rfl, n, h1, h2⟩ | ⟨x, rfl, a, rfl, ⟨kvs, h1, h2⟩ | ⟨kvs, h1, h2⟩⟩
    · exact .inl ⟨x, n, rfl, h1, h2⟩
    · exact .inr (.inl ⟨a, kvs, rfl, h1, h2⟩)
    · exact .inr (.inr ⟨a, kvs, rfl, h1, h2⟩)
end
end Mp
namespace Mp
open PySem L2
section
variable {G : Gl} {K : PySem.W.Frag} {μ μ0 : Mu} {S : Sto} {H H0 : Hp} {Q : VK}
/-! ### int, str, list, tuple, min -/
def rInt : List V → Hp → VK → Prop := fun xs H Q => ((∃ i, xs = [.int i] ∧ Q (.int i) H) ∨ ∃ k, xs = [.bl k] ∧ Q (.int (if k then 1 else 0)) H) ∨ ∃ a n, xs = [.str a] ∧ PySem.intText? a = some n ∧ a.length ≤ 640 ∧ Q (.int n) H
theorem call_intAll {X : Cx} : CallR X (.type "int") rInt := CallR.or' call_int1 call_int_str
theorem vk_int : VOk G K .int rInt := VOF.ok (f := orF oInt1 oIntS) (fun μ0 H0 μ S H vs ds Q d S' e R rd h q => by
  unfold orF at h
  split at h
  · rename_i z ez
    cases h
    unfold oInt1 at ez
    split at ez
    · cases ez
      obtain ⟨v, rfl, h1⟩ := rd.one
      exact .inl (.inl ⟨_, by rw [h1.int_inv], q.give e R (.int _)⟩)
    · cases ez
      obtain ⟨v, rfl, h1⟩ := rd.one
      exact .inl (.inr ⟨_, by rw [h1.bl_inv], q.give e R (.int _)⟩)
    · cases ez
  · unfold oIntS at h
    split at h
    · split at h
      · rename_i hl
        obtain ⟨n, hn, e2⟩ := Option.map_eq_some_iff.mp h
        cases e2
        obtain ⟨v, rfl, h1⟩ := rd.one
        exact .inr ⟨_, n, by rw [h1.str_inv], hn, by rw [SX.S_len]; exact hl, q.give e R (.int _)⟩
      · cases h
    · cases h) rfl
theorem numL_ok (n : Nat) : Cok (TL.numL n) := fun c hc => by
  have h := TL.numL_digits n c hc
  omega
def rStr1 : List V → Hp → VK → Prop := fun xs H Q => ∃ i, xs = [.int i] ∧ i.natAbs.log2 < 1920 ∧ Q (.str (toString i)) H
theorem vk_str1 : VOk G K .str1 rStr1 := VOF.ok (f := oStr1) (fun μ0 H0 μ S H vs ds Q d S' e R rd h q => by
  unfold oStr1 at h
  split at h
  · rename_i S2 i
    split at h
    · rename_i hl
      cases h
      obtain ⟨v, rfl, h1⟩ := rd.one
      refine ⟨i, by rw [h1.int_inv], hl.2, ?_⟩
      have e2 : (toString i : String) = toString ((i.toNat : Nat) : Int) := by rw [Int.toNat_of_nonneg hl.1]
      have e3 : Str.ofString (toString i) = SX.S (TL.numL i.toNat) := by rw [e2]; exact SX.num_S _
      show Q (.str (Str.ofString (toString i))) H
      rw [e3]
      exact q.give e R (RD.str' (numL_ok _))
    · cases h
  · cases h) rfl
def rTupOf (K : PySem.W.Frag) : List V → Hp → VK → Prop := fun xs H Q => ∃ p ys, xs = [.ref p] ∧ ((SqL K H p ys ∧ ∀ l, H l = none → Q (.ref l) (upd H l (.tup ys))) ∨ (SqT K H p ys ∧ Q (.ref p) H))
theorem vk_tupOf : VOk G K .tupOf (rTupOf K) := VOF.ok (f := oTupOf) (fun μ0 H0 μ S H vs ds Q d S' e R rd h q => by
  unfold oTupOf at h
  split at h
  · cases h
    obtain ⟨v, rfl, h1⟩ := rd.one
    obtain ⟨p, ws, rfl, g1, g2⟩ := id h1.tup_inv
    exact ⟨p, ws, rfl, .inr ⟨Mp.SqT.ofT g1, q.give e R h1⟩⟩
  · obtain ⟨es, hs, e2⟩ := Option.map_eq_some_iff.mp h
    cases e2
    obtain ⟨v, rfl, h1⟩ := rd.one
    obtain ⟨p, ws, rfl, g1, g2⟩ := R.seq h1 hs
    exact ⟨p, ws, rfl, .inl ⟨g1, fun n hn => new_tup R e hn g2 q⟩⟩
  · cases h) rfl
def rMin2 : List V → Hp → VK → Prop := fun xs H Q => ∃ i j, xs = [.int i, .int j] ∧ Q (.int (if j < i then j else i)) H
theorem vk_min2 : VOk G K .min2 rMin2 := VOF.ok (f := oMin2) (fun μ0 H0 μ S H vs ds Q d S' e R rd h q => by
  unfold oMin2 at h
  split at h
  · cases h
    obtain ⟨v, w, rfl, h1, h2⟩ := rd.two
    exact ⟨_, _, by rw [h1.int_inv, h2.int_inv], q.give e R (.int _)⟩
  · cases h) rfl
/-! ### methods of built-ins -/
/-- the receiver, then the arguments -/
def VOM (G : Gl) (K : PySem.W.Frag) (f : OpF) (r : V → List V → Hp → VK → Prop) : Prop :=
  ∀ (μ0 : Mu) (H0 : Hp) (μ : Mu) (S : Sto) (H : Hp) (x : V) (dx : D) (vs : List V) (ds : List D) (Q : VK) (d : D) (S' : Sto), Ext μ0 H0 μ H → Rel G.N K μ S H → RD K μ H x dx → RDs K μ H vs ds → f (dx :: ds) S = some (d, S') → LQ G.N K μ0 H0 Q d S' → r x vs H Q
/-- what the receiver is, ahead of the arguments -/
def TYM (G : Gl) (K : PySem.W.Frag) (o : Op) (T : String) : Prop := ∀ (μ : Mu) (S : Sto) (H : Hp) (x : V) (d : D), Rel G.N K μ S H → RD K μ H x d → tyOk o S d = true → tyV K T x H
theorem ty_str {o : Op} (h : ∀ S d, tyOk o S d = true → ∃ s, d = .str s) : TYM G K o "str" := fun μ S H x d R r t => by
  obtain ⟨s, rfl⟩ := h S d t
  rw [r.str_inv]; exact rfl
theorem txts_cons {d : D} {ds : List D} {ps : List (List Nat)} (h : txts (d :: ds) = some ps) : ∃ s qs, d = .str s ∧ txts ds = some qs ∧ ps = s :: qs := by
  obtain ⟨b, bs, e1, e2, rfl⟩ := mapM_cons h
  cases d with
  | str s => cases e1; exact ⟨_, bs, rfl, e2, rfl⟩
  | _ => cases e1
theorem txts_ok : ∀ {ds : List D} {vs : List V} {ps : List (List Nat)}, RDs K μ H vs ds → txts ds = some ps → vs = (ps.map SX.S).map V.str ∧ ∀ p ∈ ps, Cok p
  | [], vs, ps, h, e => by
    cases h
    rw [show ps = [] from mapM_nil e]
    exact ⟨rfl, fun _ h => nomatch h⟩
  | d :: ds, vs, ps, h, e => by
    obtain ⟨s, qs, rfl, e2, rfl⟩ := txts_cons e
    cases h with
    | cons h1 h2 =>
      obtain ⟨a, b⟩ := txts_ok h2 e2
      refine ⟨by rw [h1.str_inv, a]; rfl, fun p hp => ?_⟩
      rcases List.mem_cons.mp hp with rfl | hp
      · exact h1.cok
      · exact b p hp
theorem joinL_ok {sep : List Nat} (hs : Cok sep) : ∀ {ps : List (List Nat)}, (∀ p ∈ ps, Cok p) → Cok (TL.joinL sep ps)
  | [], _ => fun c hc => by simp [TL.joinL] at hc
  | [p], h => by rw [TL.joinL]; exact h p (by simp)
  | p :: q :: r, h => by
    rw [TL.joinL]
    exact (h p (by simp)).append (hs.append (joinL_ok hs fun x hx => h x (List.mem_cons_of_mem _ hx)))
def rJoin (K : PySem.W.Frag) : V → List V → Hp → VK → Prop := fun x xs H Q => ∃ a p, ∃ ys : List Str, x = .str a ∧ xs = [.ref p] ∧ (SqL K H p (ys.map V.str) ∨ SqT K H p (ys.map V.str)) ∧
    (ys.map (·.length)).sum + ys.length * a.length ≤ 16777216 ∧ Q (.str (Txt.join a ys)) H
theorem vm_join : VOM G K oJoin (rJoin K) := fun μ0 H0 μ S H x dx vs ds Q d S' e R rx rd h q => by
  have fin : ∀ (sep : List Nat) (es : List D) (p : Addr) (ws : List V), dx = .str sep → vs = [.ref p] → (SqL K H p ws ∨ SqT K H p ws) → RDs K μ H ws es → joinF sep es S = some (d, S') → rJoin K x vs H Q := fun sep es p ws hx hv hs hr hj => by
    subst hx hv
    unfold joinF at hj
    split at hj
    · rename_i ps hp
      split at hj
      · rename_i hl
        cases hj
        obtain ⟨rfl, hc⟩ := txts_ok hr hp
        refine ⟨SX.S sep, p, ps.map SX.S, rx.str_inv, rfl, hs, ?_, ?_⟩
        · rw [SX.lens, List.length_map, SX.S_len]; exact hl
        · rw [SX.join_S]; exact q.give e R (RD.str' (joinL_ok rx.cok hc))
      · cases hj
    · cases hj
  unfold oJoin at h
  split at h
  · rename_i S2 sep es ez
    cases ez
    obtain ⟨v, rfl, h1⟩ := rd.one
    obtain ⟨p, ws, rfl, g1, g2⟩ := h1.tup_inv
    exact fin sep es p ws rfl rfl (.inr (Mp.SqT.ofT g1)) g2 h
  · rename_i S2 sep y hny ez
    cases ez
    split at h
    · rename_i es hs
      obtain ⟨v, rfl, h1⟩ := rd.one
      obtain ⟨p, ws, rfl, g1, g2⟩ := R.seq h1 hs
      exact fin sep es p ws rfl rfl (.inl g1) g2 h
    · cases h
  · cases h
end
end Mp
namespace Mp
open PySem PySem.Spec PyProof.Rows L2
theorem _root_.L2.PE.or {X : Cx} {e : Expr} {t t' : TE} (h : PE X e t) (h' : PE X e t') : PE X e (fun σ H Q => t σ H Q ∨ t' σ H Q) := ⟨fun pins s σ H Q I q => q.elim (h.run pins s σ H Q I) (h'.run pins s σ H Q I)⟩
section
variable {G : Gl} {X : Cx} {C : Calls} {hx : Option Nat}
variable {e a b : Expr} {es : List Expr} {m ma mb : Tm} {ms : Tms} {pos p : Pos} {x : Str}
/-! ### calls of built-ins -/
theorem ce_callB (hC : MonoC C) {id : String} {r : List V → Hp → VK → Prop} {o : Op} (hc : CallR X (.builtin id) r) (hv : VOk G X.K o r) (h : CEs G C hx X (e :: es) ms) (hg : L2.Gl X x) (hm : X.mg x = none) (hb : bootBuiltins x = some (.builtin id))
    (hn : x ≠ "__name__" := by decide) (hdb : (x == ("__debug__" : Str)) = false := by decide)
    (he : starEach (e :: es) X.env = (false, eval e X.env) :: starEach es X.env := by rfl) (hpl : (backTo pos (starEach es X.env)).any (·.1) = false := by rfl) : CE G C hx X (.Call (.Name x p) (e :: es) [] pos) (.op o ms) := fun W tk y => by
  refine (pe_callB hc hg hm hb (h.pa hC tk y) hn hdb he hpl).imp fun σ H Q ⟨μ, S, ρ, wd, q⟩ => ?_
  refine bindA (monoEs hC ms) wd q fun vs H1 μ1 S1 ds e1 w1 r1 q1 => ?_
  exact hv μ H μ1 S1 H1 vs ds Q e1 w1.rel r1 q1
theorem ce_callTy (hC : MonoC C) {T : String} {r : List V → Hp → VK → Prop} {o : Op} (hc : CallR X (.type T) r) (hv : VOk G X.K o r) (h : CEs G C hx X (e :: es) ms) (hg : L2.Gl X x) (hm : X.mg x = none) (hb : bootBuiltins x = some (.type T))
    (hn : x ≠ "__name__" := by decide) (hdb : (x == ("__debug__" : Str)) = false := by decide)
    (he : starEach (e :: es) X.env = (false, eval e X.env) :: starEach es X.env := by rfl) (hpl : (backTo pos (starEach es X.env)).any (·.1) = false := by rfl) : CE G C hx X (.Call (.Name x p) (e :: es) [] pos) (.op o ms) := fun W tk y => by
  refine (pe_callTy hc hg hm hb (h.pa hC tk y) hn hdb he hpl).imp fun σ H Q ⟨μ, S, ρ, wd, q⟩ => ?_
  refine bindA (monoEs hC ms) wd q fun vs H1 μ1 S1 ds e1 w1 r1 q1 => ?_
  exact hv μ H μ1 S1 H1 vs ds Q e1 w1.rel r1 q1
/-! ### methods of built-ins -/
theorem ce_bm (hC : MonoC C) {T id : String} {name : Str} {o : Op} {r : V → List V → Hp → VK → Prop} {apos cpos : Pos} (pa : PlainAttrs T) (slot : Slot T name id) (hty : typeOf (.builtin id) = pure (.type "method_descriptor")) (hm : MtR X id r)
    (vm : VOM G X.K (opF G.T o) r) (ty : TYM G X.K o T) (ho : CE G C hx X a ma) (h : CEs G C hx X (e :: es) ms)
    (hbase : attributeBase a name X.env (eval a X.env) = eval a X.env := by rfl)
    (hfew : ((backTo cpos (starEach (e :: es) X.env)).all (fun x => !x.1) && (backToKw cpos (keywordEach [] X.env)).all (fun x => x.1.isSome)
      && decide ((e :: es).length + ([] : List Keyword).length + (if ([] : List Keyword).isEmpty then 0 else 1) < 30)) = true := by rfl)
    (hline : (apos.endLine == cpos.line) = true := by rfl) (hs : starEach (e :: es) X.env = (false, eval e X.env) :: starEach es X.env := by rfl) (hplain : (backTo cpos (starEach es X.env)).any (·.1) = false := by rfl) :
    CE G C hx X (.Call (.Attribute a name apos) (e :: es) [] cpos) (.bm o ma ms) := fun W tk y => by
  refine (pe_bm pa slot hty hm (ho W tk y) (h.pa hC tk y) hbase hfew hline hs hplain).imp fun σ H Q ⟨μ, S, ρ, wd, q⟩ => ?_
  refine bindW (monoE hC ma) wd q fun v H1 μ1 S1 d e1 w1 r1 q1 => ?_
  refine ⟨ty μ1 S1 H1 v d w1.rel r1 q1.1, ?_⟩
  refine bindA (monoEs hC ms) w1 q1.2 fun vs H2 μ2 S2 ds e2 w2 r2 q2 => ?_
  obtain ⟨z, S3, hz, q3⟩ := opD_some q2
  exact vm μ H μ2 S2 H2 v d vs ds Q z S3 (e1.trans e2) w2.rel (r1.ext e2) r2 hz q3
theorem ce_bm0 (hC : MonoC C) {T id : String} {name : Str} {o : Op} {r : V → List V → Hp → VK → Prop} {apos cpos : Pos} (pa : PlainAttrs T) (slot : Slot T name id) (hty : typeOf (.builtin id) = pure (.type "method_descriptor")) (hm : MtR X id r)
    (vm : VOM G X.K (opF G.T o) r) (ty : TYM G X.K o T) (ho : CE G C hx X a ma) (hbase : attributeBase a name X.env (eval a X.env) = eval a X.env := by rfl) (hline : (apos.endLine == cpos.line) = true := by rfl) :
    CE G C hx X (.Call (.Attribute a name apos) [] [] cpos) (.bm o ma .nil) := fun W tk y => by
  refine (pe_bm0 pa slot hty hm (ho W tk y) hbase hline).imp fun σ H Q ⟨μ, S, ρ, wd, q⟩ => ?_
  refine bindW (monoE hC ma) wd q fun v H1 μ1 S1 d e1 w1 r1 q1 => ?_
  refine ⟨ty μ1 S1 H1 v d w1.rel r1 q1.1, ?_⟩
  obtain ⟨z, S3, hz, q3⟩ := opD_some q1.2
  exact vm μ H μ1 S1 H1 v d [] [] Q z S3 e1 w1.rel r1 .nil hz q3
/-! ### subscripts, slices, attributes -/
theorem ix_dict (hu : X.A.units + 1 < cLine) : IxR X rDGet := by
  intro value slice pins s σ H x y v u Q I rx ry h hs
  obtain ⟨a, z, rfl, g, q⟩ := h
  obtain rfl : v = Value.ref a := rx
  have hT := dict_typeIs I g
  unfold subscriptTail
  refine wpAny_bind ?_
  rw [getitemInPython_of_ne hT.not_modules]
  refine wpAny_bind (wpAny_specialOf hT PySem.F.slot_dict_getitem.lookup ?_)
  have fin : wpAny (model X.prog X.w) X.A (subscripted slice false (.ref a) u) (fun r s₃ => wpAny (model X.prog X.w) X.A (letTemporaryGo value (.ref a) r >>= fun _ => pure r) (EP X pins σ Q) X.xe s₃) X.xe s := by
    rw [hs]
    exact wpAny_operating (wpAny_mono (d_getItem (A := X.A) (Q := fun r s₃ => EP X pins σ Q r s₃) hu I g ry fun w' s3 I3 rw' => ⟨z, H, I3, rw', q⟩) (fun r s₃ h₃ => wpAny_bind (wpAny_letTemporaryGo (wpAny_pure h₃))) fun _ _ x => x)
  first
    | exact wpAny_pure (wpAny_bind fin)
    | exact wpAny_bind (wpAny_pure (wpAny_bind fin))
    | exact wpAny_bind fin
theorem ce_ix (hC : MonoC C) (hu : X.A.units + 65 < cLine) (ha : CE G C hx X a ma) (hb : CE G C hx X b mb) (hs : PlainIx b) : CE G C hx X (.Subscript a b pos) (.op .ix (.cons ma (.cons mb .nil))) := fun W tk y => by
  refine (pe_ix (ix_seq.or (ix_dict (by omega))) (ha W tk y) (hb W tk y) hs).imp fun σ H Q ⟨μ, S, ρ, wd, q⟩ => ?_
  refine bindW (monoE hC ma) wd q fun v H1 μ1 S1 d e1 w1 r1 q1 => ?_
  refine bindW (monoE hC mb) w1 q1 fun u H2 μ2 S2 d' e2 w2 r2 q2 => ?_
  exact vk_ix μ H μ2 S2 H2 [v, u] [d, d'] Q (e1.trans e2) w2.rel (.cons (r1.ext e2) (.cons r2 .nil)) q2 v u rfl
theorem ce_cutL (hC : MonoC C) {i : Expr} {mi : Tm} {p2 : Pos} (ha : CE G C hx X a ma) (hi : CE G C hx X i mi) : CE G C hx X (.Subscript a (.Slice (some i) none none p2) pos) (.op .cutL (.cons ma (.cons mi .nil))) := fun W tk y => by
  refine (pe_slice sl_all (ha W tk y) (po_some (hi W tk y)) po_none).imp fun σ H Q ⟨μ, S, ρ, wd, q⟩ => ?_
  refine bindW (monoE hC ma) wd q fun v H1 μ1 S1 d e1 w1 r1 q1 => ?_
  refine bindW (monoE hC mi) w1 q1 fun u H2 μ2 S2 d2 e2 w2 r2 q2 => ?_
  obtain ⟨z, S3, hz, q3⟩ := opD_some q2
  replace hz : oCutL [d, d2] S2 = some (z, S3) := hz
  cases d2 with
  | int k =>
    simp only [oCutL] at hz
    split at hz
    · rename_i hk
      exact ⟨k, r2.int_inv, cut_ok (fun m => sIx_clip hk) (fun m => rfl) (e1.trans e2) w2.rel (r1.ext e2) hz q3⟩
    · cases hz
  | _ => cases hz
theorem ce_cutH (hC : MonoC C) {i : Expr} {mi : Tm} {p2 : Pos} (ha : CE G C hx X a ma) (hi : CE G C hx X i mi) : CE G C hx X (.Subscript a (.Slice none (some i) none p2) pos) (.op .cutH (.cons ma (.cons mi .nil))) := fun W tk y => by
  refine (pe_slice sl_all (ha W tk y) po_none (po_some (hi W tk y))).imp fun σ H Q ⟨μ, S, ρ, wd, q⟩ => ?_
  refine bindW (monoE hC ma) wd q fun v H1 μ1 S1 d e1 w1 r1 q1 => ?_
  refine bindW (monoE hC mi) w1 q1 fun u H2 μ2 S2 d2 e2 w2 r2 q2 => ?_
  obtain ⟨z, S3, hz, q3⟩ := opD_some q2
  replace hz : oCutH [d, d2] S2 = some (z, S3) := hz
  cases d2 with
  | int k =>
    simp only [oCutH] at hz
    split at hz
    · rename_i hk
      exact ⟨k, r2.int_inv, cut_ok (fun m => rfl) (fun m => sIx_clip hk) (e1.trans e2) w2.rel (r1.ext e2) hz q3⟩
    · cases hz
  | _ => cases hz
/-- what the text's top says of its own classes -/
def ClsAll (G : Gl) (K : PySem.W.Frag) : Prop := ∀ c C, G.N.kap c = some C → Cls K C
def NoAt (G : Gl) (K : PySem.W.Frag) (f : Nat) : Prop := ∀ c C, G.N.kap c = some C → NoAttr K C (G.N.nm f)
theorem RF.look {nm : Nat → Str} (inj : ∀ f g, nm f = nm g → f = g) {K : PySem.W.Frag} {μ : Mu} {H : Hp} {fv : List (Str × V)} {fs : List (Nat × D)} (h : RF nm K μ H fv fs) (f : Nat) : OptR K μ H (fv.lookup (nm f)) (lookF fs f) := by
  induction h with
  | nil => exact trivial
  | @cons g v fv d fs h1 h2 ih =>
    unfold lookF at ih ⊢
    rw [List.lookup_cons, List.lookup_cons]
    by_cases hg : f = g
    · subst hg; simp [OptR, h1]
    · have n1 : (f == g) = false := by simpa using hg
      have n2 : (nm f == nm g) = false := by
        rw [beq_eq_false_iff_ne]
        exact fun z => hg (inj _ _ z)
      rw [n1, n2]; exact ih
theorem ce_attr (hC : MonoC C) {f : Nat} {name : Str} (hcl : ClsAll G X.K) (hno : NoAt G X.K f) (hnm : G.N.nm f = name) (inj : ∀ f g, G.N.nm f = G.N.nm g → f = g) (ha : CE G C hx X a ma) (hb : attributeBase a name X.env (eval a X.env) = eval a X.env := by rfl) :
    CE G C hx X (.Attribute a name pos) (.op (.attr f) (.cons ma .nil)) := fun W tk y => by
  subst hnm
  refine (pe_fld (ha W tk y) hb).imp fun σ H Q ⟨μ, S, ρ, wd, q⟩ => ?_
  refine bindW (monoE hC ma) wd q fun v H1 μ1 S1 d e1 w1 r1 q1 => ?_
  obtain ⟨z, S3, hz, q3⟩ := opD_some q1
  replace hz : oAttr f [d] S1 = some (z, S3) := hz
  unfold oAttr at hz
  split at hz
  · rename_i S2 r ez
    cases ez
    split at hz
    · rename_i c fs es
      obtain ⟨o, ho, e2⟩ := Option.map_eq_some_iff.mp hz
      cases e2
      obtain ⟨p, rfl, g1, Cc, dx, fv, g2, g3, g4⟩ := w1.rel.ref r1 es
      have g5 := Mp.RF.look inj g4 f
      rw [ho] at g5
      obtain ⟨v, hv, g6⟩ := g5.some_of
      exact ⟨p, Cc, dx, fv, v, rfl, g3, hcl c Cc g2, hno c Cc g2, hv, LQ.give q3 e1 w1.rel g6⟩
    · cases hz
  · cases hz
/-! ### displays -/
theorem ce_tup (hC : MonoC C) {k} (h : CEs G C hx X es ms) : CE G C hx X (.Tuple es k pos) (.op .tup ms) := fun W tk y => by
  refine (pe_tup (h.pa hC tk y)).imp fun σ H Q ⟨μ, S, ρ, wd, q⟩ => ?_
  refine bindA (monoEs hC ms) wd q fun vs H1 μ1 S1 ds e1 w1 r1 q1 => ?_
  exact vk_tup μ H μ1 S1 H1 vs ds Q e1 w1.rel r1 q1
theorem ce_lst (hC : MonoC C) (h : CEs G C hx X es ms) : CE G C hx X (.List es pos) (.op .lst ms) := fun W tk y => by
  refine (pe_lst (h.pa hC tk y)).imp fun σ H Q ⟨μ, S, ρ, wd, q⟩ => ?_
  refine bindA (monoEs hC ms) wd q fun vs H1 μ1 S1 ds e1 w1 r1 q1 => ?_
  exact vk_lst μ H μ1 S1 H1 vs ds Q e1 w1.rel r1 q1
theorem ce_dnT (hC : MonoC C) : CE G C hx X (.Dict [] [] pos) (.op .dnT .nil) := fun W tk y => by
  refine pe_dnewT.imp fun σ H Q ⟨μ, S, ρ, wd, q⟩ => ?_
  exact vk_dnT μ H μ S H [] [] Q (Ext.refl _ _) wd.rel .nil q rfl
/-! ### isinstance -/
/-- a class, as the text holds it -/
def ClOk (G : Gl) (K : PySem.W.Frag) (cl : Cl) (u : Value) : Prop := ∀ (μ : Mu) (S : Sto) (H : Hp) (v : V) (d : D) (b : Bool), Rel G.N K μ S H → RD K μ H v d → clsOf G.T S d cl = some b → ∃ t, TyX K H v t ∧ PySem.W.kitOne K t u = some b
theorem kit_le : ∀ a b : Ty, kitB a.name b.name = some (a.le b) := by
  intro a b
  cases a <;> cases b <;> decide +kernel
theorem clok_ty {K : PySem.W.Frag} {n : Ty} : ClOk G K (.ty n) (.type n.name) := fun μ S H v d b R rd e => by
  have fin : ∀ t : Ty, tyD S d = some (.inl t) → TyX K H v (.type t.name) → ∃ t, TyX K H v t ∧ PySem.W.kitOne K t (.type n.name) = some b := fun t h1 h2 => by
    unfold clsOf at e
    rw [h1] at e
    cases (show some (t.le n) = some b from e)
    exact ⟨_, h2, kit_ty (kit_le t n)⟩
  cases d with
  | non => rw [rd.non_inv] at fin ⊢; exact fin .non rfl (.base .non)
  | bl i => rw [rd.bl_inv] at fin ⊢; exact fin .bl rfl (.base (.bl _))
  | int i => rw [rd.int_inv] at fin ⊢; exact fin .int rfl (.base (.int _))
  | str i => rw [rd.str_inv] at fin ⊢; exact fin .str rfl (.base (.str _))
  | tup i =>
    obtain ⟨a, vs, rfl, g1, g2⟩ := rd.tup_inv
    exact fin .tup rfl (.base (.tup g1))
  | lis i => cases e
  | ref r =>
    cases hr : S[r]? with
    | none =>
      have z : tyD S (.ref r) = none := by simp only [tyD, hr]
      unfold clsOf at e; rw [z] at e; cases e
    | some ob =>
      cases ob with
      | lst ds =>
        obtain ⟨a, vs, rfl, g0, g1, g2⟩ := R.lst rd hr
        exact fin .lst (by simp only [tyD, hr]) (.base (.lst g1))
      | dic t l kv =>
        obtain ⟨a, rfl, g1, g2⟩ := R.ref rd hr
        cases l with
        | true =>
          have z : tyD S (.ref r) = none := by simp only [tyD, hr]
          unfold clsOf at e; rw [z] at e; cases e
        | false =>
          refine fin .dct (by simp only [tyD, hr]) ?_
          cases t with
          | false => obtain ⟨kv, i1, _⟩ := g2; exact .base (.dK i1)
          | true => obtain ⟨kv, i1, _⟩ := g2; exact .base (.dT i1)
      | ins c fs =>
        have z : tyD S (.ref r) = some (.inr c) := by simp only [tyD, hr]
        unfold clsOf at e; rw [z] at e; cases e
theorem ce_isi (hC : MonoC C) {cl : Cl} {vc : V} {u : Value} {pc : Pos} {xc : Expr} (hcl : ClOk G X.K cl u) (hvc : ClsV vc u) (hc : PE X xc (tC vc)) (ha : CE G C hx X e m) (hg : L2.Gl X "isinstance") (hm : X.mg "isinstance" = none)
    (he : starEach (e :: [xc]) X.env = (false, eval e X.env) :: starEach [xc] X.env := by rfl) (hpl : (backTo pos (starEach [xc] X.env)).any (·.1) = false := by rfl)
    (hs1 : starEach [xc] X.env = (false, eval xc X.env) :: starEach [] X.env := by rfl) : CE G C hx X (.Call (.Name "isinstance" p) [e, xc] [] pos) (.op (.isi [cl]) (.cons m .nil)) := fun W tk y => by
  refine (pe_callB call_isi hg hm (by decide +kernel) (pa_cons (ha W tk y) (pa_cons hc pa_nil hs1) he) (by decide) (by decide) he hpl).imp fun σ H Q ⟨μ, S, ρ, wd, q⟩ => ?_
  refine bindW (monoE hC m) wd q fun v H1 μ1 S1 d e1 w1 r1 q1 => ?_
  obtain ⟨z, S3, hz, q3⟩ := opD_some (show opD G.T (.isi [cl]) [d] S1 (LQ G.N X.K μ H Q) from q1)
  replace hz : oIsi G.T [cl] [d] S1 = some (z, S3) := hz
  obtain ⟨b, hb, e2⟩ := Option.map_eq_some_iff.mp (show (clsOf G.T S1 d cl).map (fun k => ((.bl k : D), S1)) = some (z, S3) from hz)
  cases e2
  obtain ⟨t, g1, g2⟩ := hcl μ1 S1 H1 v d b w1.rel r1 hb
  exact ⟨v, vc, t, u, b, rfl, hvc, g1, g2, LQ.give q3 e1 w1.rel (.bl _)⟩
/-- a built-in class by its name -/
theorem pe_bty {n : String} {xn : Str} {pc : Pos} (hg : L2.Gl X xn) (hm : X.mg xn = none) (hb : bootBuiltins xn = some (.type n)) (hn : xn ≠ "__name__" := by decide) (hdb : (xn == ("__debug__" : Str)) = false := by decide) : PE X (.Name xn pc) (tC (.ty n)) := pe_bltn hg hm hb rfl hn hdb
theorem pe_own {Cj : Addr} {xn : Str} {pc : Pos} (hg : L2.Gl X xn) (hm : X.mg xn = some (.ref Cj)) (hdb : (xn == ("__debug__" : Str)) = false := by decide) : PE X (.Name xn pc) (tC (.ref Cj)) := pe_glob hg hm rfl hdb
end
end Mp
namespace Mp
open PySem PySem.Spec PyProof.Rows L2
/-- what is wanted behind a command, told of clean data -/
structure KD {G : Gl} {K : PySem.W.Frag} {W : WX} (x : Sx G K W) (k : Kt) (D : Ends) (μ : Mu) (H : Hp) : Prop where
  nx : ∀ μ' H' S' σ' ρ', Ext μ H μ' H' → Wd x σ' H' μ' S' ρ' → k.nx ρ' S' → D.nx σ' H'
  rt : ∀ μ' H' S' v d, Ext μ H μ' H' → Rel G.N K μ' S' H' → RD K μ' H' v d → k.rt d S' → D.rt v H'
  bk : ∀ μ' H' S' σ' ρ', Ext μ H μ' H' → Wd x σ' H' μ' S' ρ' → k.bk ρ' S' → D.bk σ' H'
  ct : ∀ μ' H' S' σ' ρ', Ext μ H μ' H' → Wd x σ' H' μ' S' ρ' → k.ct ρ' S' → D.ct σ' H'
theorem KD.ext {G : Gl} {K : PySem.W.Frag} {W : WX} {x : Sx G K W} {k : Kt} {D : Ends} {μ μ' : Mu} {H H' : Hp} (h : KD x k D μ H) (e : Ext μ H μ' H') : KD x k D μ' H' :=
  ⟨fun _ _ _ _ _ e' => h.nx _ _ _ _ _ (e.trans e'), fun _ _ _ _ _ e' => h.rt _ _ _ _ _ (e.trans e'), fun _ _ _ _ _ e' => h.bk _ _ _ _ _ (e.trans e'), fun _ _ _ _ _ e' => h.ct _ _ _ _ _ (e.trans e')⟩
/-- nothing hangs on the slots -/
def Sx.any {G : Gl} {K : PySem.W.Frag} {W : WX} (x : Sx G K W) : Prop := ∀ μ H σ, x.P μ H σ
/-- the reading of a command -/
def LS {G : Gl} {K : PySem.W.Frag} {W : WX} (x : Sx G K W) (m : Env → Sto → Kt → PX → Prop) : TS := fun D σ H => ∃ μ S ρ k, Wd x σ H μ S ρ ∧ m ρ S k x.EX ∧ KD x k D μ H
section
variable {G : Gl} {X : Cx} {C : Calls} {hx : Option Nat}
abbrev mC (G : Gl) (C : Calls) (hx : Option Nat) (s : Cm) : Env → Sto → Kt → PX → Prop := fun ρ S k EX => wpC G.T C hx s ρ S k EX
abbrev mCs (G : Gl) (C : Calls) (hx : Option Nat) (s : Cms) : Env → Sto → Kt → PX → Prop := fun ρ S k EX => wpCs G.T C hx s ρ S k EX
def CS (G : Gl) (C : Calls) (hx : Option Nat) (X : Cx) (st : Stmt) (c : Cm) : Prop := ∀ (W : WX) (_ : Takes X W) (x : Sx G X.K W), x.any → PS X st (LS x (mC G C hx c))
def CSs (G : Gl) (C : Calls) (hx : Option Nat) (X : Cx) (st : List Stmt) (c : Cms) : Prop := ∀ (W : WX) (_ : Takes X W) (x : Sx G X.K W), x.any → PSs X st (LS x (mCs G C hx c))
variable {e a b : Expr} {es : List Expr} {m ma mb : Tm} {ms : Tms} {pos p : Pos} {y : Str} {st : Stmt} {sts : List Stmt} {c : Cm} {cs : Cms}
theorem Wd.set {K : PySem.W.Frag} {W : WX} {x : Sx G K W} (ha : x.any) {σ : L2.St} {H : Hp} {μ : Mu} {S : Sto} {ρ : Env} (w : Wd x σ H μ S ρ) {i : Nat} {v : V} {d : D} (r : RD K μ H v d) : Wd x (σ.set i (some v)) H μ S (ρ.set i (some d)) :=
  ⟨w.ext, w.rel, w.re.set r, ha _ _ _⟩
/-! ### blocks -/
theorem css_nil : CSs G C hx X [] .nil := fun W tk x ha => pss_nil.imp fun σ H D ⟨μ, S, ρ, k, wd, q, kd⟩ => kd.nx μ H S σ ρ (Ext.refl _ _) wd q
theorem css_cons (h1 : CS G C hx X st c) (h2 : CSs G C hx X sts cs) : CSs G C hx X (st :: sts) (.cons c cs) := fun W tk x ha => by
  refine (pss_cons (h1 W tk x ha) (h2 W tk x ha)).imp fun σ H D ⟨μ, S, ρ, k, wd, q, kd⟩ => ?_
  refine ⟨μ, S, ρ, _, wd, q, ?_, kd.rt, kd.bk, kd.ct⟩
  exact fun μ' H' S' σ' ρ' e w n => ⟨μ', S', ρ', k, w, n, kd.ext e⟩
/-! ### simple commands -/
theorem cs_ret (hC : MonoC C) (h : CE G C hx X e m) : CS G C hx X (.Return (some e) pos) (.ret m) := fun W tk x ha =>
  (ps_ret (h W tk x)).imp fun σ H D ⟨μ, S, ρ, k, wd, q, kd⟩ => bindW (monoE hC m) wd q fun v H1 μ1 S1 d e1 w1 r1 q1 => kd.rt μ1 H1 S1 v d e1 w1.rel r1 q1
theorem cs_ite (hC : MonoC C) {cc : Expr} {sa sb : List Stmt} {ca cb : Cms} (hc : CT G C hx X cc m) (h1 : CSs G C hx X sa ca) (h2 : CSs G C hx X sb cb) : CS G C hx X (.If cc sa sb pos) (.ite m ca cb) := fun W tk x ha => by
  refine (ps_if (hc W tk x) (h1 W tk x ha) (h2 W tk x ha)).imp fun σ H D ⟨μ, S, ρ, k, wd, q, kd⟩ => ?_
  refine bindT (monoE hC m) wd q (fun d S1 q1 => ?_) fun b H1 μ1 S1 e1 w1 q1 => ?_
  · cases d with
    | bl b => exact ⟨b, rfl⟩
    | _ => exact q1.elim
  · cases b with
    | true => rw [if_pos rfl]; exact ⟨μ1, S1, ρ, k, w1, q1, kd.ext e1⟩
    | false => rw [if_neg Bool.false_ne_true]; exact ⟨μ1, S1, ρ, k, w1, q1, kd.ext e1⟩
/-! ### targets -/
/-- x = e -/
theorem cs_asg (hC : MonoC C) {i : Nat} {pos' : Pos} (hN : X.N.Nodup) (hi : X.N[i]? = some y) (hy : Loc X.env.scope y) (hf : X.fn y = true ∨ X.env.scope.names.lookup y = some .local) (h : CE G C hx X e m)
    (hs : swapsWith e (some (.Name y pos')) pos.line X.env = pure false := by rfl) : CS G C hx X (.Assign [.Name y pos'] e pos) (.asg i m) := fun W tk x ha => by
  refine (ps_set hN hi hy (h W tk x) hs hf).imp fun σ H D ⟨μ, S, ρ, k, wd, q, kd⟩ => ?_
  refine bindW (monoE hC m) wd q fun v H1 μ1 S1 d e1 w1 r1 q1 => ?_
  exact kd.nx μ1 H1 S1 _ _ e1 (w1.set ha r1) q1
/-- a target: what it does to the clean frame -/
inductive PGv (X : Cx) : List Expr → List Nat → TGs → Prop
  | nil : PGv X [] [] gNil
  | cons {y : Str} {i : Nat} {es : List Expr} {is : List Nat} {t : TGs} {pos : Pos} : X.N.Nodup → X.N[i]? = some y → Loc X.env.scope y → (X.fn y = true ∨ X.env.scope.names.lookup y = some .local) → PGv X es is t →
      (assignEach (.Name y pos :: es) X.env).map (·.2) = assign (.Name y pos) X.env :: (assignEach es X.env).map (·.2) → PGv X (.Name y pos :: es) (i :: is) (gCons (gName i) t)
theorem PGv.ok {es : List Expr} {is : List Nat} {t : TGs} (h : PGv X es is t) : PGs X es t := by
  induction h with
  | nil => exact pgs_nil
  | cons h1 h2 h3 h4 h5 h6 ih => exact pgs_cons (pg_name h1 h2 h3 h4) ih h6
theorem PGv.run {es : List Expr} {is : List Nat} {t : TGs} (h : PGv X es is t) {W : WX} {x : Sx G X.K W} (ha : x.any) {Q : L2.St → Hp → Prop} {H : Hp} {μ : Mu} {S : Sto} : ∀ {σ : L2.St} {ρ ρ' : Env} {vs : List V} {ds : List D}, Wd x σ H μ S ρ → RDs X.K μ H vs ds → asgs is ds ρ = some ρ' →
    (∀ σ', Wd x σ' H μ S ρ' → Q σ' H) → t vs σ H Q := by
  induction h with
  | nil =>
    intro σ ρ ρ' vs ds wd rd e q
    cases ds with
    | nil => cases e; cases rd; exact ⟨rfl, q σ wd⟩
    | cons _ _ => cases e
  | cons h1 h2 h3 h4 h5 h6 ih =>
    intro σ ρ ρ' vs ds wd rd e q
    cases rd with
    | nil => cases e
    | cons r1 r2 => exact ⟨_, _, rfl, ih (wd.set ha r1) r2 e q⟩
theorem asgs_len : ∀ {is : List Nat} {ds : List D} {ρ ρ' : Env}, asgs is ds ρ = some ρ' → ds.length = is.length
  | [], [], _, _, _ => rfl
  | [], _ :: _, _, _, h => by cases h
  | _ :: _, [], _, _, h => by cases h
  | i :: is, d :: ds, ρ, ρ', h => by simp [asgs_len (is := is) (ds := ds) h]
/-- x, y = e -/
theorem pgT_run {es : List Expr} {is : List Nat} {t : TGs} (h : PGv X es is t) {n : Nat} (hn : is.length = n) {W : WX} {x : Sx G X.K W} (ha : x.any) {Q : L2.St → Hp → Prop} {H : Hp} {μ : Mu} {S : Sto} {σ : L2.St} {ρ ρ' : Env} {v : V} {d : D} (wd : Wd x σ H μ S ρ) (rd : RD X.K μ H v d) (e : asgT is d ρ = some ρ')
    (q : ∀ σ', Wd x σ' H μ S ρ' → Q σ' H) : gTup X.K n t v σ H Q := by
  cases d with
  | tup ds =>
    obtain ⟨a, vs, rfl, g1, g2⟩ := rd.tup_inv
    exact ⟨a, vs, rfl, Mp.SqT.ofT g1, by rw [g2.length, asgs_len e, hn], h.run ha wd g2 e q⟩
  | _ => cases e
theorem cs_asgT (hC : MonoC C) {is : List Nat} {t : TGs} {kk : Nat} {pos' : Pos} (hc : X.calm = true) (ht : PGv X es is t) (h : CE G C hx X e m)
    (hn : (assignEach es X.env).length = is.length := by rfl) (hst : (assignEach es X.env).findIdx? (·.1) = none := by rfl)
    (hs : swapsWithSole [.Tuple es kk pos'] e pos.line X.env = pure false := by rfl) (hw : swappedStores [.Tuple es kk pos'] e X.env = pure none := by rfl)
    (h1 : (assignEach [.Tuple es kk pos'] X.env).map (·.2) = [assign (.Tuple es kk pos') X.env] := by rfl) : CS G C hx X (.Assign [.Tuple es kk pos'] e pos) (.asgT is m) := fun W tk x ha => by
  refine (ps_asg (h W tk x) (pg_tup hc ht.ok hn hst) hs hw h1).imp fun σ H D ⟨μ, S, ρ, k, wd, q, kd⟩ => ?_
  refine bindW (monoE hC m) wd q fun v H1 μ1 S1 d e1 w1 r1 q1 => ?_
  cases ez : asgT is d ρ with
  | none => rw [ez] at q1; exact q1.elim
  | some ρ' =>
    rw [ez] at q1
    exact pgT_run ht rfl ha w1 r1 ez fun σ' w' => kd.nx μ1 H1 S1 σ' ρ' e1 w' q1
/-! ### o[i] = e -/
def rDPut : TSet := fun o i v H Q => ∃ a H', o = .ref a ∧ DPut H a i v H' ∧ Q H'
theorem set_dict (hu : X.A.units + 1 < cLine) : PSet X rDPut := by
  intro pins s σ H o i v ov iv u Q I ro ri rv h
  obtain ⟨a, H', rfl, g, q⟩ := h
  obtain rfl : ov = Value.ref a := ro
  exact d_setItem hu I g ri rv fun s4 I4 => ⟨H', I4, q⟩
theorem PSet.or {t t' : TSet} (h : PSet X t) (h' : PSet X t') : PSet X fun o i v H Q => t o i v H Q ∨ t' o i v H Q := by
  intro pins s σ H o i v ov iv u Q I ro ri rv q
  rcases q with q | q
  · exact h pins s σ H o i v ov iv u Q I ro ri rv q
  · exact h' pins s σ H o i v ov iv u Q I ro ri rv q
theorem putK_RKT {K : PySem.W.Frag} {μ : Mu} {H : Hp} {v : V} {e : D} (rv : RD K μ H v e) {ds : List D} {k : List L2.Key} (hk : ds.mapM key1 = some k) (hr : RDs K μ H (k.map kV) ds) {kv : List (List L2.Key × V)} {kvs : List (D × D)} (h : RKT K μ H kv kvs) : RKT K μ H (putK kv k v) (put kvs (.tup ds) e) := by
  have any_eq : (kv.any fun p => decide (p.1 = k)) = (kvs.any fun p => decide (p.1 = D.tup ds)) := by
    clear rv
    induction h with
    | nil => rfl
    | @cons k' v' kv ds' e' kvs h1 h0 h2 h3 ih =>
      rw [List.any_cons, List.any_cons, ih]
      congr 1
      by_cases z : k' = k
      · subst z
        have z2 : ds' = ds := keys1_inj h1 hk
        subst z2; simp
      · have z2 : ¬ (D.tup ds' = D.tup ds) := fun q => by cases q; rw [hk] at h1; cases h1; exact z rfl
        simp [z, z2]
  have map_ok : RKT K μ H (kv.map fun p => if p.1 = k then (p.1, v) else p) (kvs.map fun p => if p.1 = D.tup ds then (p.1, e) else p) := by
    clear any_eq
    induction h with
    | nil => exact .nil
    | @cons k' v' kv ds' e' kvs h1 h0 h2 h3 ih =>
      rw [List.map_cons, List.map_cons]
      by_cases z : k' = k
      · subst z
        have z2 : ds' = ds := keys1_inj h1 hk
        subst z2
        simp only [if_pos]
        exact .cons h1 h0 rv ih
      · have z2 : ¬ (D.tup ds' = D.tup ds) := fun q => by cases q; rw [hk] at h1; cases h1; exact z rfl
        simp only [if_neg z, if_neg z2]
        exact .cons h1 h0 h2 ih
  have app : ∀ {kv : List (List L2.Key × V)} {kvs : List (D × D)}, RKT K μ H kv kvs → RKT K μ H (kv ++ [(k, v)]) (kvs ++ [(D.tup ds, e)]) := fun h => by
    induction h with
    | nil => exact .cons hk hr rv .nil
    | cons h1 h0 h2 h3 ih => exact .cons h1 h0 h2 ih
  unfold putK put
  rw [any_eq]
  split
  · exact map_ok
  · exact app h
theorem putK_RK1 {K : PySem.W.Frag} {μ : Mu} {H : Hp} {v : V} {e d : D} (rv : RD K μ H v e) {k : L2.Key} (hk : key1 d = some k) (hr : RD K μ H (kV k) d) {kv : List (L2.Key × V)} {kvs : List (D × D)} (h : RK1 K μ H kv kvs) : RK1 K μ H (putK kv k v) (put kvs d e) := by
  have any_eq : (kv.any fun p => decide (p.1 = k)) = (kvs.any fun p => decide (p.1 = d)) := by
    clear rv
    induction h with
    | nil => rfl
    | @cons k' v' kv d' e' kvs h1 h0 h2 h3 ih =>
      rw [List.any_cons, List.any_cons, ih]
      congr 1
      by_cases z : k' = k
      · subst z
        have z2 : d' = d := key1_inj h1 hk
        subst z2; simp
      · have z2 : ¬ (d' = d) := fun q => by subst q; rw [hk] at h1; cases h1; exact z rfl
        simp [z, z2]
  have map_ok : RK1 K μ H (kv.map fun p => if p.1 = k then (p.1, v) else p) (kvs.map fun p => if p.1 = d then (p.1, e) else p) := by
    clear any_eq
    induction h with
    | nil => exact .nil
    | @cons k' v' kv d' e' kvs h1 h0 h2 h3 ih =>
      rw [List.map_cons, List.map_cons]
      by_cases z : k' = k
      · subst z
        have z2 : d' = d := key1_inj h1 hk
        subst z2
        simp only [if_pos]
        exact .cons h1 h0 rv ih
      · have z2 : ¬ (d' = d) := fun q => by subst q; rw [hk] at h1; cases h1; exact z rfl
        simp only [if_neg z, if_neg z2]
        exact .cons h1 h0 h2 ih
  have app : ∀ {kv : List (L2.Key × V)} {kvs : List (D × D)}, RK1 K μ H kv kvs → RK1 K μ H (kv ++ [(k, v)]) (kvs ++ [(d, e)]) := fun h => by
    induction h with
    | nil => exact .cons hk hr rv .nil
    | cons h1 h0 h2 h3 ih => exact .cons h1 h0 h2 ih
  unfold putK put
  rw [any_eq]
  split
  · exact map_ok
  · exact app h
theorem set_ok {K : PySem.W.Frag} {μ : Mu} {S : Sto} {H : Hp} {x i v : V} {dx di dv : D} {Q : Sto → Prop} {Q' : Hp → Prop} (R : Rel G.N K μ S H) (h1 : RD K μ H x dx) (h2 : RD K μ H i di) (h3 : RD K μ H v dv) (h : setW dx di dv S Q)
    (q : ∀ H' S', Ext μ H μ H' → Rel G.N K μ S' H' → Q S' → Q' H') : rSetL x i v H Q' ∨ rDPut x i v H Q' := by
  unfold setW at h
  split at h
  · rename_i r
    split at h
    · rename_i ds hs
      split at h
      · rename_i k
        split at h
        · rename_i j hj
          obtain ⟨a, vs, rfl, g0, g1, g2⟩ := R.lst h1 hs
          have mu : Mut (H a) := by rw [g1]; trivial
          have ex : Ext μ H μ (upd H a (.lst (vs.set j v))) := Ext.upd (.inr mu)
          refine .inl ⟨a, vs, k, j, rfl, h2.int_inv, g1, by rw [g2.length]; exact hj, q _ _ ex (R.write (ob := .lst (ds.set j dv)) g0 mu ⟨_, upd_same, (g2.set h3 j).ext ex⟩) h⟩
        · exact h.elim
      · exact h.elim
    · rename_i t kvs hs
      obtain ⟨hk, hl, h⟩ := h
      obtain ⟨a, rfl, g0, g1⟩ := R.ref h1 hs
      cases t with
      | true =>
        obtain ⟨kv, i1, i2⟩ := g1
        obtain ⟨ks, hks⟩ := Option.isSome_iff_exists.mp (show (keyT di).isSome = true from hk)
        obtain ⟨b, rfl, hb⟩ := key_at h2 hks
        have mu : Mut (H a) := by rw [i1]; trivial
        have ex : Ext μ H μ (upd H a (.dT (putK kv ks v))) := Ext.upd (.inr mu)
        cases di with
        | tup es =>
          obtain ⟨b', vs', e', hb', hr'⟩ := h2.tup_inv
          cases e'
          rw [hb] at hb'; cases hb'
          refine .inr ⟨a, _, rfl, .inr ⟨kv, ks, b, i1, rfl, hb, by rw [i2.length, lim_eq]; exact hl, rfl⟩, q _ _ ex (R.write (ob := .dic true false (put kvs (.tup es) dv)) g0 mu ⟨_, upd_same, (putK_RKT h3 hks hr' i2).ext ex⟩) h⟩
        | _ => cases hks
      | false =>
        obtain ⟨kv, i1, i2⟩ := g1
        obtain ⟨ks, hks⟩ := Option.isSome_iff_exists.mp (show (key1 di).isSome = true from hk)
        have hkv := key1_kV h2 hks
        subst hkv
        have mu : Mut (H a) := by rw [i1]; trivial
        have ex : Ext μ H μ (upd H a (.dK (putK kv ks v))) := Ext.upd (.inr mu)
        refine .inr ⟨a, _, rfl, .inl ⟨kv, ks, i1, rfl, by rw [i2.length, lim_eq]; exact hl, rfl⟩, q _ _ ex (R.write (ob := .dic false false (put kvs di dv)) g0 mu ⟨_, upd_same, (putK_RK1 h3 hks h2 i2).ext ex⟩) h⟩
    · exact h.elim
  · exact h.elim
theorem cs_setX (hC : MonoC C) (hu : X.A.units + 65 < cLine) {o i : Expr} {mo mi : Tm} {pos' : Pos} (hv : CE G C hx X e m) (ho : CE G C hx X o mo) (hi : CE G C hx X i mi)
    (hsub : ∀ v, assign (.Subscript o i pos') X.env v = (do
      let ov ← holding [v] (eval o X.env)
      let iv ← holding [v, ov] (eval i X.env)
      standAt pos'
      holding [v, ov, iv] (setItem ov iv v)
      release [v, ov, iv] []) := by intro _; rfl)
    (hs : swapsWithSole [.Subscript o i pos'] e pos.line X.env = pure false := by rfl) (hw : swappedStores [.Subscript o i pos'] e X.env = pure none := by rfl)
    (h1 : (assignEach [.Subscript o i pos'] X.env).map (·.2) = [assign (.Subscript o i pos') X.env] := by rfl) : CS G C hx X (.Assign [.Subscript o i pos'] e pos) (.setX mo mi m) := fun W tk x ha => by
  refine (ps_asg (hv W tk x) (pg_sub (ho W tk x) (hi W tk x) (Mp.PSet.or set_list (set_dict (by omega))) hsub) hs hw h1).imp fun σ H D ⟨μ, S, ρ, k, wd, q, kd⟩ => ?_
  refine bindW (monoE hC m) wd q fun v H1 μ1 S1 d e1 w1 r1 q1 => ?_
  refine bindW (monoE hC mo) w1 q1 fun v2 H2 μ2 S2 d2 e2 w2 r2 q2 => ?_
  refine bindW (monoE hC mi) w2 q2 fun v3 H3 μ3 S3 d3 e3 w3 r3 q3 => ?_
  exact set_ok w3.rel (r2.ext e3) r3 ((r1.ext e2).ext e3) q3 fun H' S' ex R' n => kd.nx μ3 H' S' σ ρ (((e1.trans e2).trans e3).trans ex) (w3.next ex R') n
/-! ### o.f = e -/
theorem RF.put {nm : Nat → Str} (inj : ∀ f g, nm f = nm g → f = g) {K : PySem.W.Frag} {μ : Mu} {H : Hp} {v : V} {d : D} (rv : RD K μ H v d) (f : Nat) {fv : List (Str × V)} {fs : List (Nat × D)} (h : RF nm K μ H fv fs) : RF nm K μ H (putF (nm f) v fv) (putN f d fs) := by
  induction h with
  | nil => exact .cons rv .nil
  | @cons g v' fv d' fs h1 h2 ih =>
    unfold putF putN
    by_cases hg : g = f
    · subst hg; rw [if_pos rfl, if_pos rfl]; exact .cons rv h2
    · rw [if_neg fun z => hg (inj _ _ z), if_neg hg]; exact .cons h1 ih
theorem RF.length {nm : Nat → Str} {K : PySem.W.Frag} {μ : Mu} {H : Hp} {fv : List (Str × V)} {fs : List (Nat × D)} (h : RF nm K μ H fv fs) : fv.length = fs.length := by
  induction h with
  | nil => rfl
  | cons _ _ ih => simp [ih]
theorem cs_setA (hC : MonoC C) {f : Nat} {name : Str} {o : Expr} {mo : Tm} {pos' : Pos} (hcl : ClsAll G X.K) (hno : NoAt G X.K f) (hnm : G.N.nm f = name) (inj : ∀ f g, G.N.nm f = G.N.nm g → f = g) (hv : CE G C hx X e m) (ho : CE G C hx X o mo)
    (hs : swapsWith e (some (.Attribute o name pos')) pos.line X.env = pure false := by rfl) : CS G C hx X (.Assign [.Attribute o name pos'] e pos) (.setA mo f m) := fun W tk x ha => by
  subst hnm
  refine (ps_fld (ho W tk x) (hv W tk x) hs).imp fun σ H D ⟨μ, S, ρ, k, wd, q, kd⟩ => ?_
  refine bindW (monoE hC m) wd q fun v H1 μ1 S1 d e1 w1 r1 q1 => ?_
  refine bindW (monoE hC mo) w1 q1 fun v2 H2 μ2 S2 d2 e2 w2 r2 q2 => ?_
  split at q2
  · rename_i r
    split at q2
    · rename_i cc fs es
      obtain ⟨hl, q2⟩ := q2
      obtain ⟨a, rfl, g0, Cc, dx, fv, g1, g2, g3⟩ := w2.rel.ref r2 es
      have mu : Mut (H2 a) := by rw [g2]; trivial
      have ex : Ext μ2 H2 μ2 (upd H2 a (.ins Cc dx (putF (G.N.nm f) v fv))) := Ext.upd (.inr mu)
      refine ⟨a, Cc, dx, fv, rfl, g2, hcl cc Cc g1, hno cc Cc g1, by rw [Mp.RF.length g3]; exact hl, ?_⟩
      exact kd.nx μ2 _ _ σ ρ ((e1.trans e2).trans ex) (w2.next ex (w2.rel.write (ob := .ins cc (putN f d fs)) g0 mu ⟨Cc, dx, _, g1, upd_same, Mp.RF.ext ex (Mp.RF.put inj (r1.ext e2) f g3)⟩)) q2
    · exact q2.elim
  · exact q2.elim
end
end Mp
namespace Mp
open PySem PySem.Spec PyProof.Rows L2
/-- a walked thing, and the clean items that it gives -/
structure SrcOk (G : Gl) (K : PySem.W.Frag) (μ0 : Mu) (H0 : Hp) (J : It) (items : List D) (stand : Sto → Prop) : Prop where
  go : ∀ i μ S H, Ext μ0 H0 μ H → Rel G.N K μ S H → stand S → i < items.length → J.go i H
  stop : ∀ i μ S H, Ext μ0 H0 μ H → Rel G.N K μ S H → stand S → i = items.length → J.stop i H
  yld : ∀ i μ S H x H' d, Ext μ0 H0 μ H → Rel G.N K μ S H → stand S → items[i]? = some d → J.yld i H x H' → Ext μ H μ H' ∧ Rel G.N K μ S H' ∧ RD K μ H' x d
theorem SrcOk.low {G : Gl} {K : PySem.W.Frag} {μ0 μ1 : Mu} {H0 H1 : Hp} {J : It} {items : List D} {stand : Sto → Prop} (h : SrcOk G K μ0 H0 J items stand) (e : Ext μ0 H0 μ1 H1) : SrcOk G K μ1 H1 J items stand :=
  ⟨fun i μ S H e' => h.go i μ S H (e.trans e'), fun i μ S H e' => h.stop i μ S H (e.trans e'), fun i μ S H x H' d e' => h.yld i μ S H x H' d (e.trans e')⟩
section
variable {G : Gl} {K : PySem.W.Frag} {μ μ0 : Mu} {S : Sto} {H H0 : Hp}
/-- a tuple -/
theorem src_tup {a : Addr} {vs : List V} {ds : List D} (h1 : H0 a = some (.tup vs)) (h2 : RDs K μ0 H0 vs ds) : SrcOk G K μ0 H0 (Itt K a) ds fun _ => True where
  go := fun i μ S H e R _ hi => by
    have hi' : i < vs.length := by rw [h2.length]; exact hi
    exact ⟨vs, vs[i], Mp.SqT.ofT (e.tup _ _ h1), List.getElem?_eq_getElem hi'⟩
  stop := fun i μ S H e R _ hi => ⟨vs, Mp.SqT.ofT (e.tup _ _ h1), by rw [hi, h2.length]; exact Nat.le_refl _⟩
  yld := fun i μ S H x H' d e R _ hd ⟨e1, e2⟩ => by
    subst e1
    obtain ⟨v, hv, rv⟩ := (h2.ext e).get hd
    have := e2 vs (Mp.SqT.ofT (e.tup _ _ h1))
    rw [hv] at this; cases this
    exact ⟨Ext.refl _ _, R, rv⟩
theorem src_seq {x : D} {v : V} {ds : List D} (R0 : Rel G.N K μ0 S H0) (h : RD K μ0 H0 v x) (hs : seqD S x = some ds) : ∃ a, v = .ref a ∧ (∃ xs, SqL K H0 a xs) ∧ SrcOk G K μ0 H0 (Itl K a) ds fun S' => seqD S' x = some ds := by
  obtain ⟨a, vs, rfl, g1, g2⟩ := R0.seq h hs
  refine ⟨a, rfl, ⟨vs, g1⟩, ?_⟩
  have at_ : ∀ (μ : Mu) (S : Sto) (H : Hp), Ext μ0 H0 μ H → Rel G.N K μ S H → seqD S x = some ds → ∃ ws, SqL K H a ws ∧ RDs K μ H ws ds := fun μ S H e R hs => by
    obtain ⟨a', ws, e', i1, i2⟩ := R.seq (h.ext e) hs
    cases e'
    exact ⟨ws, i1, i2⟩
  refine ⟨fun i μ S H e R hs hi => ?_, fun i μ S H e R hs hi => ?_, fun i μ S H y H' d e R hs hd ⟨e1, e2⟩ => ?_⟩
  · obtain ⟨ws, i1, i2⟩ := at_ μ S H e R hs
    have hi' : i < ws.length := by rw [i2.length]; exact hi
    exact ⟨ws, ws[i], i1, List.getElem?_eq_getElem hi'⟩
  · obtain ⟨ws, i1, i2⟩ := at_ μ S H e R hs
    exact ⟨ws, i1, by rw [hi, i2.length]; exact Nat.le_refl _⟩
  · subst e1
    obtain ⟨ws, i1, i2⟩ := at_ μ S _ e R hs
    obtain ⟨v, hv, rv⟩ := i2.get hd
    have := e2 ws i1
    rw [hv] at this; cases this
    exact ⟨Ext.refl _ _, R, rv⟩
theorem src_str {s : List Nat} (hc : Cok s) : SrcOk G K μ0 H0 (Its ⟨s.toArray⟩) (s.map fun c => .str [c]) fun _ => True where
  go := fun i μ S H e R _ hi => by simpa [Its] using hi
  stop := fun i μ S H e R _ hi => by simp [Its, hi]
  yld := fun i μ S H x H' d e R _ hd ⟨e1, c, e2, e3⟩ => by
    subst e1 e3
    have e2 : s[i]? = some c := by simpa using e2
    rw [List.getElem?_map, e2] at hd
    cases hd
    exact ⟨Ext.refl _ _, R, RD.str' (hc.one (List.mem_of_getElem? e2))⟩
theorem rng_at {i c : Int} {n j : Nat} {d : D} (h : (rngItems i c n)[j]? = some d) : j < n ∧ d = .int (i + (j : Nat) * c) := by
  unfold rngItems at h
  rw [List.getElem?_map] at h
  cases e : (List.range n)[j]? with
  | none => rw [e] at h; cases h
  | some k =>
    rw [e] at h
    have hj : j < n := by simpa using (List.getElem?_eq_some_iff.mp e).1
    have hk : k = j := by rw [List.getElem?_range hj] at e; cases e; rfl
    subst hk
    cases h
    exact ⟨hj, rfl⟩
theorem rng_len {i c : Int} {n : Nat} : (rngItems i c n).length = n := by simp [rngItems]
theorem src_rng1 {n : Nat} : SrcOk G K μ0 H0 (Itr 0 n) (rngItems 0 1 n) fun _ => True where
  go := fun i μ S H e R _ hi => by rw [rng_len] at hi; exact hi
  stop := fun i μ S H e R _ hi => by rw [rng_len] at hi; exact Nat.le_of_eq hi.symm
  yld := fun i μ S H x H' d e R _ hd ⟨e1, e2⟩ => by
    subst e1 e2
    obtain ⟨_, rfl⟩ := rng_at hd
    rw [Int.mul_one]
    exact ⟨Ext.refl _ _, R, .int _⟩
theorem src_rng3 {lo c : Int} {n : Nat} : SrcOk G K μ0 H0 (Itc lo c n) (rngItems lo c n) fun _ => True where
  go := fun i μ S H e R _ hi => by rw [rng_len] at hi; exact hi
  stop := fun i μ S H e R _ hi => by rw [rng_len] at hi; exact Nat.le_of_eq hi.symm
  yld := fun i μ S H x H' d e R _ hd ⟨e1, e2⟩ => by
    subst e1 e2
    obtain ⟨_, rfl⟩ := rng_at hd
    exact ⟨Ext.refl _ _, R, .int _⟩
end
section
variable {G : Gl} {X : Cx} {C : Calls} {hx : Option Nat}
variable {e a b : Expr} {es : List Expr} {m ma mb : Tm} {ms : Tms} {pos p : Pos} {y : Str} {st : Stmt} {sts : List Stmt} {c : Cm} {cs : Cms}
/-- what a loop walks: its rule -/
def CI (G : Gl) (C : Calls) (hx : Option Nat) (X : Cx) (tg iter : Expr) (m : Src) : Prop := ∀ (W : WX) (_ : Takes X W) (x : Sx G X.K W), PI X tg iter fun σ H R => ∃ μ S ρ, Wd x σ H μ S ρ ∧
  wpI G.T C hx m ρ S (fun w S1 => ∀ μ1 H1, Ext μ H μ1 H1 → Rel G.N X.K μ1 S1 H1 → ∀ J, SrcOk G X.K μ1 H1 J w.items w.stand → R J H1) x.EX
/-- a value is walked: a list, a tuple, a text -/
def iAny (K : PySem.W.Frag) (te : TE) : TI := fun σ H R => te σ H fun v H1 => (∃ a, v = .ref a ∧ (∃ xs, SqL K H1 a xs) ∧ R (Itl K a) H1) ∨ (∃ a, v = .ref a ∧ (∃ xs, SqT K H1 a xs) ∧ R (Itt K a) H1) ∨ ∃ z, v = .str z ∧ R (Its z) H1
theorem pi_any {tg : Expr} {te : TE} (he : PE X e te) : PI X tg e (iAny X.K te) := by
  refine ⟨fun pins s σ H R I h => ?_⟩
  refine thn (he.run pins s σ H _ I h) fun v s1 ⟨x, H1, I1, r1, q1⟩ => ?_
  rcases q1 with ⟨a, e, ⟨xs, hq⟩, q⟩ | ⟨a, e, ⟨xs, hq⟩, q⟩ | ⟨z, e, q⟩
  · subst e
    cases r1
    obtain ⟨its, rv, p, hz⟩ := I1.list hq
    refine wpAny_pyIter_list p.isList ?_
    refine ⟨s1.heap.objs.size, [s1.heap.objs.size], _, _, H1, rfl, I1.kept (t' := s1.toks) fun b o e => Heap.get?_push_of_some _ e, turn_list a _, ⟨_, Heap.get?_push_size _ rfl, rfl, rfl⟩, fun b hb => ?_, q⟩
    have e : b = s1.heap.objs.size := by simpa using hb
    subst e
    exact I1.fpOk (Nat.le_refl _) (I1.hok.fresh (Nat.le_refl _))
  · subst e
    cases r1
    obtain ⟨its, rv, p, hz⟩ := I1.tuple hq
    refine wpAny_pyIter_tuple (show s1.heap.IsTuple a its.toArray from p) ?_
    refine ⟨s1.heap.objs.size, [s1.heap.objs.size], _, _, H1, rfl, I1.kept (t' := s1.toks) fun b o e => Heap.get?_push_of_some _ e, turn_tuple a _, ⟨_, Heap.get?_push_size _ rfl, rfl, rfl⟩, fun b hb => ?_, q⟩
    have e : b = s1.heap.objs.size := by simpa using hb
    subst e
    exact I1.fpOk (Nat.le_refl _) (I1.hok.fresh (Nat.le_refl _))
  · subst e
    obtain ⟨t, rfl⟩ := r1
    cases ha : z.cps.all (· < 128)
    · exact wpAny_pyIter_wide ha (pi_one (tk := s1.toks) I1 _ (turn_str _ z t "str_iterator" (.inr rfl)) ⟨_, Heap.get?_push_size _ rfl, rfl, rfl⟩ q)
    · exact wpAny_pyIter_ascii ha (pi_one (tk := s1.toks) I1 _ (turn_str _ z t "str_ascii_iterator" (.inl rfl)) ⟨_, Heap.get?_push_size _ rfl, rfl, rfl⟩ q)
theorem wk_ok {K : PySem.W.Frag} {μ1 : Mu} {S1 : Sto} {H1 : Hp} {v : V} {d : D} {w : Wk} (R : Rel G.N K μ1 S1 H1) (r : RD K μ1 H1 v d) (hw : wkOf S1 d = some w) {Q : It → Hp → Prop} (q : ∀ J, SrcOk G K μ1 H1 J w.items w.stand → Q J H1) :
    (∃ a, v = .ref a ∧ (∃ xs, SqL K H1 a xs) ∧ Q (Itl K a) H1) ∨ (∃ a, v = .ref a ∧ (∃ xs, SqT K H1 a xs) ∧ Q (Itt K a) H1) ∨ ∃ z, v = .str z ∧ Q (Its z) H1 := by
  have seq : ∀ ds : List D, seqD S1 d = some ds → w = ⟨ds, fun S' => seqD S' d = some ds⟩ → ∃ a, v = .ref a ∧ (∃ xs, SqL K H1 a xs) ∧ Q (Itl K a) H1 := fun ds hs e => by
    subst e
    obtain ⟨a, h1, h2, h3⟩ := src_seq R r hs
    exact ⟨a, h1, h2, q _ h3⟩
  cases d with
  | tup ds =>
    cases hw
    obtain ⟨a, vs, rfl, g1, g2⟩ := r.tup_inv
    exact .inr (.inl ⟨a, rfl, ⟨vs, Mp.SqT.ofT g1⟩, q _ (src_tup g1 g2)⟩)
  | str s =>
    cases hw
    exact .inr (.inr ⟨⟨s.toArray⟩, r.str_inv, q _ (src_str r.cok)⟩)
  | lis ds =>
    obtain ⟨es, hs, e⟩ := Option.map_eq_some_iff.mp (show (seqD S1 (.lis ds)).map (fun es => (⟨es, fun S' => seqD S' (.lis ds) = some es⟩ : Wk)) = some w from hw)
    exact .inl (seq es hs e.symm)
  | ref n =>
    obtain ⟨es, hs, e⟩ := Option.map_eq_some_iff.mp (show (seqD S1 (.ref n)).map (fun es => (⟨es, fun S' => seqD S' (.ref n) = some es⟩ : Wk)) = some w from hw)
    exact .inl (seq es hs e.symm)
  | non => cases hw
  | bl b => cases hw
  | int i => cases hw
theorem ci_seq (hC : MonoC C) {tg : Expr} (h : CE G C hx X e m) : CI G C hx X tg e (.seq m) := fun W tk x =>
  (pi_any (h W tk x)).imp fun σ H R ⟨μ, S, ρ, wd, q⟩ => by
    refine bindW (monoE hC m) wd q fun v H1 μ1 S1 d e1 w1 r1 q1 => ?_
    cases ew : wkOf S1 d with
    | none => rw [ew] at q1; exact q1.elim
    | some w => rw [ew] at q1; exact wk_ok w1.rel r1 ew fun J hJ => q1 μ1 H1 e1 w1.rel J hJ
theorem ci_rng1 (hC : MonoC C) {tg : Expr} (hg : L2.Gl X "range") (hm : X.mg "range" = none) (h : CE G C hx X a ma) (hs : starEach [a] X.env = [(false, eval a X.env)] := by rfl) : CI G C hx X tg (.Call (.Name "range" p) [a] [] pos) (.rng1 ma) := fun W tk x =>
  (pi_range1 hg hm (pa_cons (h W tk x) pa_nil (by rw [hs]; rfl)) hs).imp fun σ H R ⟨μ, S, ρ, wd, q⟩ => by
    refine bindW (monoE hC ma) wd q fun v H1 μ1 S1 d e1 w1 r1 q1 => ?_
    cases d with
    | int j => exact ⟨j, by rw [r1.int_inv], q1.1, q1.2.1, q1.2.2 μ1 H1 e1 w1.rel _ src_rng1⟩
    | _ => exact q1.elim
theorem rangeSize_up {i j c : Int} (hc : 0 < c) : Builtin.Range.rangeSize i j c = (rngN i j c : Nat) := by
  unfold Builtin.Range.rangeSize rngN
  rw [if_pos hc]
  have e : j - i + c - 1 = (j - i - 1) + c := by omega
  by_cases h : i < j
  · rw [if_pos h, e, Int.add_ediv_of_dvd_right (Int.dvd_refl c), Int.ediv_self (by omega)]
    have : 0 ≤ (j - i - 1) / c := Int.ediv_nonneg (by omega) (by omega)
    omega
  · rw [if_neg h]
    have : (j - i + c - 1) / c ≤ 0 := by
      have h2 : (j - i + c - 1) / c < 1 := (Int.ediv_lt_iff_lt_mul hc).mpr (by omega)
      omega
    omega
theorem small_up {i j c : Int} (b1 : -(2 ^ 60) ≤ i) (b2 : i < 2 ^ 60) (b3 : -(2 ^ 60) ≤ j) (b4 : j < 2 ^ 60) (b5 : 0 < c) (b6 : c < 1073741824) : Builtin.Range.small i j c = true := by
  have h1 : (Builtin.Range.rangeSize i j c) ≤ 2 ^ 61 := by
    unfold Builtin.Range.rangeSize
    rw [if_pos b5]
    split
    · have : (j - i - 1) / c ≤ j - i - 1 := Int.ediv_le_self _ (by omega)
      omega
    · omega
  have h2 : 0 ≤ Builtin.Range.rangeSize i j c := by rw [rangeSize_up b5]; omega
  unfold Builtin.Range.small
  simp only [Builtin.Range.rangeFitsLong, Bool.and_eq_true, Bool.or_eq_true, decide_eq_true_eq, beq_iff_eq, b5, if_true]
  omega
theorem ci_rng3 (hC : MonoC C) {tg : Expr} {e3 : Expr} {m3 : Tm} (hg : L2.Gl X "range") (hm : X.mg "range" = none) (h1 : CE G C hx X a ma) (h2 : CE G C hx X b mb) (h3 : CE G C hx X e3 m3)
    (hs : starEach [a, b, e3] X.env = (false, eval a X.env) :: starEach [b, e3] X.env := by rfl) (hs2 : starEach [b, e3] X.env = (false, eval b X.env) :: starEach [e3] X.env := by rfl) (hs3 : starEach [e3] X.env = (false, eval e3 X.env) :: starEach [] X.env := by rfl)
    (hpl : (backTo pos (starEach [b, e3] X.env)).any (·.1) = false := by rfl) : CI G C hx X tg (.Call (.Name "range" p) [a, b, e3] [] pos) (.rng3 ma mb m3) := fun W tk x =>
  (pi_range3 hg hm (pa_cons (h1 W tk x) (pa_cons (h2 W tk x) (pa_cons (h3 W tk x) pa_nil hs3) hs2) hs) hs hpl).imp fun σ H R ⟨μ, S, ρ, wd, q⟩ => by
    refine bindW (monoE hC ma) wd q fun v1 H1 μ1 S1 d1 e1 w1 r1 q1 => ?_
    refine bindW (monoE hC mb) w1 q1 fun v2 H2 μ2 S2 d2 e2 w2 r2 q2 => ?_
    refine bindW (monoE hC m3) w2 q2 fun v3 H3 μ3 S3 d3 e3 w3 r3 q3 => ?_
    split at q3
    · rename_i i j c
      obtain ⟨⟨b1, b2, b3, b4, b5, b6⟩, q3⟩ := q3
      refine ⟨i, j, c, rngN i j c, by rw [r1.int_inv, r2.int_inv, r3.int_inv], ⟨by omega, by omega, small_up b1 b2 b3 b4 b5 b6, rangeSize_up b5⟩, q3 μ3 H3 ((e1.trans e2).trans e3) w3.rel _ src_rng3⟩
    · exact q3.elim
/-- a target: what it does to the slots is what it does to the clean frame -/
def TGok (G : Gl) (X : Cx) (g : TG) (f : D → Env → Option Env) : Prop := ∀ (W : WX) (x : Sx G X.K W), x.any → ∀ (Q : L2.St → Hp → Prop) (H : Hp) (μ : Mu) (S : Sto) (σ : L2.St) (ρ ρ' : Env) (v : V) (d : D), Wd x σ H μ S ρ → RD X.K μ H v d → f d ρ = some ρ' → (∀ σ', Wd x σ' H μ S ρ' → Q σ' H) → g v σ H Q
theorem tg_name {i : Nat} : TGok G X (gName i) (asg1 i) := fun W x ha Q H μ S σ ρ ρ' v d wd rd e q => by
  cases e
  exact q _ (wd.set ha rd)
/-- the turns of a loop -/
theorem for_core (hC : MonoC C) {W : WX} {x : Sx G X.K W} (ha : x.any) {J : It} {items : List D} {stand : Sto → Prop} {g : TG} {f : D → Env → Option Env} (hg : TGok G X g f) {k : Kt} {D : Ends} {μ1 : Mu} {S1 : Sto} {H1 : Hp} {σ1 : L2.St} {ρ1 : Env} (wd : Wd x σ1 H1 μ1 S1 ρ1)
    (hJ : SrcOk G X.K μ1 H1 J items stand) (q : foN f stand (fun ρ S K => wpCs G.T C hx cs ρ S K x.EX) k items ρ1 S1) (kd : KD x k D μ1 H1) :
    ∃ Wm : Nat → Nat → L2.St → Hp → Prop, (∃ m, Wm 0 m σ1 H1) ∧ ∀ i m σ H, Wm i m σ H →
      (J.stop i H ∧ D.nx σ H) ∨ (J.go i H ∧ ∃ N : L2.St → Hp → Prop, (∀ σ' H', N σ' H' → ∃ m', m' < m ∧ Wm (i + 1) m' σ' H') ∧ ∀ v H', J.yld i H v H' → g v σ H' fun σ2 H2 => LS x (mCs G C hx cs) { D with nx := N, ct := N, bk := D.nx } σ2 H2) := by
  refine ⟨fun i m σ H => m = items.length - i ∧ i ≤ items.length ∧ ∃ μ S ρ, Ext μ1 H1 μ H ∧ Wd x σ H μ S ρ ∧ foN f stand (fun ρ S K => wpCs G.T C hx cs ρ S K x.EX) k (items.drop i) ρ S, ⟨_, rfl, Nat.zero_le _, μ1, S1, ρ1, Ext.refl _ _, wd, q⟩, ?_⟩
  rintro i m σ H ⟨rfl, hi, μ, S, ρ, e, w, fo⟩
  by_cases hlt : i < items.length
  · have hdrop : items.drop i = items[i] :: items.drop (i + 1) := List.drop_eq_getElem_cons hlt
    rw [hdrop] at fo
    obtain ⟨st, fo⟩ := fo
    refine .inr ⟨hJ.go i μ S H e w.rel st hlt, fun σ' H' => i + 1 ≤ items.length ∧ ∃ μ' S' ρ', Ext μ1 H1 μ' H' ∧ Wd x σ' H' μ' S' ρ' ∧ foN f stand (fun ρ S K => wpCs G.T C hx cs ρ S K x.EX) k (items.drop (i + 1)) ρ' S', fun σ' H' ⟨h1, h2⟩ => ⟨items.length - (i + 1), by omega, rfl, h1, h2⟩, fun v H' y => ?_⟩
    obtain ⟨e2, R2, rv⟩ := hJ.yld i μ S H v H' items[i] e w.rel st (List.getElem?_eq_getElem hlt) y
    cases ef : f items[i] ρ with
    | none => rw [ef] at fo; exact fo.elim
    | some ρ' =>
      rw [ef] at fo
      refine hg W x ha _ H' μ S σ ρ ρ' v items[i] (w.next e2 R2) rv ef fun σ' w' => ?_
      refine ⟨μ, S, ρ', _, w', fo, ?_⟩
      have kd2 := kd.ext (e.trans e2)
      exact ⟨fun μ' H3 S' σ3 ρ3 e3 w3 n3 => ⟨hlt, μ', S', ρ3, (e.trans e2).trans e3, w3, n3⟩, kd2.rt, fun μ' H3 S' σ3 ρ3 e3 w3 n3 => kd2.nx μ' H3 S' σ3 ρ3 e3 w3 n3, fun μ' H3 S' σ3 ρ3 e3 w3 n3 => ⟨hlt, μ', S', ρ3, (e.trans e2).trans e3, w3, n3⟩⟩
  · have ei : i = items.length := by omega
    subst ei
    rw [List.drop_length] at fo
    exact .inl ⟨hJ.stop _ μ S H e w.rel fo.1 rfl, kd.nx μ H S σ ρ e w fo.2⟩
theorem monoI (hC : MonoC C) {m : Src} {ρ : Env} {S : Sto} {Q Q' : Wk → Sto → Prop} {EX : PX} (h : wpI G.T C hx m ρ S Q EX) (hQ : ∀ w S', Q w S' → Q' w S') : wpI G.T C hx m ρ S Q' EX := wpI_mono hC m ρ S Q Q' EX EX hQ (fun _ _ z => z) h
theorem cs_for (hC : MonoC C) {tg iter : Expr} {m : Src} {g : TG} {f : D → Env → Option Env} {body : List Stmt} (hp : PassesOwn (model X.prog X.w) X.A X.env X.xe) (hc : X.calm = true) (hi : CI G C hx X tg iter m) (hg : PG X tg g) (hgo : TGok G X g f) (hb : CSs G C hx X body cs)
    (hs : ∀ z, foldedSetIterable iter X.env z = pure z) {W : WX} (tk : Takes X W) (x : Sx G X.K W) (ha : x.any) :
    PS X (.For tg iter body [] pos) (LS x fun ρ S k EX => wpI G.T C hx m ρ S (fun w S1 => foN f w.stand (fun ρ S K => wpCs G.T C hx cs ρ S K EX) k w.items ρ S1) EX) := by
  refine (ps_for hp hc (hi W tk x) hg (hb W tk x ha) hs).imp fun σ H D ⟨μ, S, ρ, k, wd, q, kd⟩ => ?_
  refine ⟨μ, S, ρ, wd, monoI hC q fun w S1 q1 μ1 H1 e1 R1 J hJ => ?_⟩
  exact for_core hC ha hgo (wd.next e1 R1) hJ q1 (kd.ext e1)
theorem cs_for1 (hC : MonoC C) {iter : Expr} {m : Src} {i : Nat} {pos' : Pos} {body : List Stmt} (hp : PassesOwn (model X.prog X.w) X.A X.env X.xe) (hc : X.calm = true) (hN : X.N.Nodup) (hn : X.N[i]? = some y) (hy : Loc X.env.scope y) (hf : X.fn y = true ∨ X.env.scope.names.lookup y = some .local)
    (hi : CI G C hx X (.Name y pos') iter m) (hb : CSs G C hx X body cs) (hs : ∀ z, foldedSetIterable iter X.env z = pure z := by intro _; rfl) : CS G C hx X (.For (.Name y pos') iter body [] pos) (.for1 i m cs) := fun W tk x ha =>
  cs_for hC hp hc hi (pg_name hN hn hy hf) tg_name hb hs tk x ha
/-! ### while -/
end
end Mp
namespace Mp
open PySem PySem.Spec PyProof.Rows L2
abbrev W0 : WX := fun _ _ _ _ => False
/-- in a comprehension's block nothing is raised -/
def LE0 (G : Gl) (K : PySem.W.Frag) (m : M) : TE := fun σ H Q => ∃ x : Sx G K W0, x.EX = (fun _ _ => False) ∧ LE x m σ H Q
def LT0 (G : Gl) (K : PySem.W.Frag) (m : M) : TT := fun σ H Q => ∃ x : Sx G K W0, x.EX = (fun _ _ => False) ∧ LT x m σ H Q
section
variable {G : Gl} {X : Cx} {C : Calls} {hx : Option Nat}
variable {e a b : Expr} {es : List Expr} {m ma mb : Tm} {ms : Tms} {pos p : Pos} {y : Str}
theorem pe0 {X : Cx} (h : CE G C hx X e m) : PE X e (LE0 G X.K (mE G C hx m)) := ⟨fun pins s σ H Q I ⟨x, _, q⟩ => (h W0 takes0 x).run pins s σ H Q I q⟩
/-- the clean turn: with a test or without -/
def turnOf (G : Gl) (C : Calls) (hx : Option Nat) (i : Nat) (me : Tm) (mt : Option Tm) (ρ : Env) : D → Sto → (Option D → Sto → Prop) → Prop := fun x S2 k => match mt with
  | none => wpE G.T C hx me (ρ.set i (some x)) S2 (fun d S3 => k (some d) S3) fun _ _ => False
  | some t => wpE G.T C hx t (ρ.set i (some x)) S2 (fun z S3 => match z with
    | .bl true => wpE G.T C hx me (ρ.set i (some x)) S3 (fun d S4 => k (some d) S4) fun _ _ => False
    | .bl false => k none S3
    | _ => False) fun _ _ => False
def tst (G : Gl) (K : PySem.W.Frag) (C : Calls) (hx : Option Nat) : Option Tm → TT
  | none => tYes
  | some t => LT0 G K (mE G C hx t)
theorem tYes_of {σ : L2.St} {H : Hp} {A B : Hp → Prop} (h : A H) : tYes σ H (fun b H3 => if b = true then A H3 else B H3) := by
  show (if true = true then A H else B H)
  rw [if_pos rfl]; exact h
theorem comp_core (hC : MonoC C) {W : WX} {x : Sx G X.K W} {J : It} {items : List D} {stand : Sto → Prop} {i : Nat} {me : Tm} {mt : Option Tm} {Q : VK} {μ0 μ1 : Mu} {S1 : Sto} {H0 H1 : Hp} {σ1 : L2.St} {ρ1 : Env} (wd : Wd x σ1 H1 μ1 S1 ρ1) (e0 : Ext μ0 H0 μ1 H1)
    (hJ : SrcOk G X.K μ1 H1 J items stand) (q : compN S1.length stand (turnOf G C hx i me mt ρ1) (fun S2 => LQ G.N X.K μ0 H0 Q (.ref S1.length) S2) items [] (S1 ++ [.lst []])) (D : Addr) (hD : H1 D = none) :
    ∃ Wm : Nat → Nat → Hp → Prop, (∃ m, Wm 0 m (upd H1 D (.lst []))) ∧ ∀ j m H, Wm j m H →
      (J.stop j H ∧ Q (.ref D) H) ∨ (J.go j H ∧ ∃ Nx : Hp → Prop, (∀ H', Nx H' → ∃ m', m' < m ∧ Wm (j + 1) m' H') ∧ ∀ v H', J.yld j H v H' → gName i v (wipe σ1 [i]) H' fun σ2 H2 => wipe σ2 [i] = wipe σ1 [i] ∧ tst G X.K C hx mt σ2 H2 fun b H3 =>
        if b = true then LE0 G X.K (mE G C hx me) σ2 H3 fun y H4 => ∃ acc, H4 D = some (.lst acc) ∧ acc.length < sizeLine ∧ Nx (upd H4 D (.lst (acc ++ [y]))) else Nx H3) := by
  have fresh := hD
  have hl : SrcOk G X.K (muAdd μ1 S1.length D) (upd H1 D (.lst [])) J items stand := hJ.low (wd.rel.pushExt hD)
  have eD : Ext μ1 H1 (muAdd μ1 S1.length D) (upd H1 D (.lst [])) := wd.rel.pushExt hD
  have R1 : Rel G.N X.K (muAdd μ1 S1.length D) (S1 ++ [.lst []]) (upd H1 D (.lst [])) := wd.rel.push (ob := .lst []) hD ⟨[], upd_same, .nil⟩
  have eLast : ∀ {μ : Mu} {H : Hp}, Ext (muAdd μ1 S1.length D) (upd H1 D (.lst [])) μ H → μ S1.length = some D := fun e => e.mu _ _ muAdd_self
  refine ⟨fun j m H => m = items.length - j ∧ j ≤ items.length ∧ ∃ μ S acc, Ext (muAdd μ1 S1.length D) (upd H1 D (.lst [])) μ H ∧ Rel G.N X.K μ S H ∧ compN S1.length stand (turnOf G C hx i me mt ρ1) (fun S2 => LQ G.N X.K μ0 H0 Q (.ref S1.length) S2) (items.drop j) acc S,
    ⟨_, rfl, Nat.zero_le _, _, _, [], Ext.refl _ _, R1, q⟩, ?_⟩
  rintro j m H ⟨rfl, hj, μ, S, acc, e, R, cn⟩
  by_cases hlt : j < items.length
  · have hdrop : items.drop j = items[j] :: items.drop (j + 1) := List.drop_eq_getElem_cons hlt
    rw [hdrop] at cn
    obtain ⟨st, ac, tu⟩ := cn
    refine .inr ⟨hl.go j μ S H e R st hlt, fun H' => j + 1 ≤ items.length ∧ ∃ μ' S' acc', Ext (muAdd μ1 S1.length D) (upd H1 D (.lst [])) μ' H' ∧ Rel G.N X.K μ' S' H' ∧ compN S1.length stand (turnOf G C hx i me mt ρ1) (fun S2 => LQ G.N X.K μ0 H0 Q (.ref S1.length) S2) (items.drop (j + 1)) acc' S', fun H' ⟨h1, h2⟩ => ⟨items.length - (j + 1), by omega, rfl, h1, h2⟩, fun v H' yy => ?_⟩
    obtain ⟨e2, R2, rv⟩ := hl.yld j μ S H v H' items[j] e R st (List.getElem?_eq_getElem hlt) yy
    show wipe ((wipe σ1 [i]).set i (some v)) [i] = wipe σ1 [i] ∧ _
    have hσ : (wipe σ1 [i]).set i (some v) = σ1.set i (some v) := by
      show (σ1.set i none).set i (some v) = _
      rw [List.set_set]
    have re2 : RE X.K μ H' (ρ1.set i (some items[j])) ((wipe σ1 [i]).set i (some v)) := by
      rw [hσ]
      exact (((wd.re.ext eD).ext e).ext e2).set rv
    refine ⟨by show ((σ1.set i none).set i (some v)).set i none = σ1.set i none; rw [List.set_set, List.set_set], ?_⟩
    -- a new item
    have more : ∀ (μ3 : Mu) (S3 : Sto) (H3 : Hp), Ext μ H' μ3 H3 → Rel G.N X.K μ3 S3 H3 → wpE G.T C hx me (ρ1.set i (some items[j])) S3 (fun d S4 => S4[S1.length]? = some (.lst acc) ∧ acc.length < LIM ∧ compN S1.length stand (turnOf G C hx i me mt ρ1) (fun S2 => LQ G.N X.K μ0 H0 Q (.ref S1.length) S2) (items.drop (j + 1)) (acc ++ [d]) (S4.set S1.length (.lst (acc ++ [d])))) (fun _ _ => False) →
        LE0 G X.K (mE G C hx me) ((wipe σ1 [i]).set i (some v)) H3 fun y H4 => ∃ acc, H4 D = some (.lst acc) ∧ acc.length < sizeLine ∧ (j + 1 ≤ items.length ∧ ∃ μ' S' acc', Ext (muAdd μ1 S1.length D) (upd H1 D (.lst [])) μ' (upd H4 D (.lst (acc ++ [y]))) ∧ Rel G.N X.K μ' S' (upd H4 D (.lst (acc ++ [y]))) ∧
          compN S1.length stand (turnOf G C hx i me mt ρ1) (fun S2 => LQ G.N X.K μ0 H0 Q (.ref S1.length) S2) (items.drop (j + 1)) acc' S') := fun μ3 S3 H3 e3 R3 w3 => by
      refine ⟨Sx.none_ G X.K W0 μ3 H3, rfl, μ3, S3, ρ1.set i (some items[j]), ⟨Ext.refl _ _, R3, re2.ext e3, trivial⟩, ?_⟩
      refine monoE hC me _ _ _ _ _ _ (fun d S4 ⟨g1, g2, g3⟩ => ?_) (fun _ _ z => z) w3
      intro μ4 H4 y e4 R4 r4
      have e14 := ((e.trans e2).trans e3).trans e4
      obtain ⟨a', ha', vs, hv, hr⟩ := R4.at_ _ _ g1
      rw [eLast e14] at ha'
      cases ha'
      have mu : Mut (H4 D) := by rw [hv]; trivial
      have ex : Ext μ4 H4 μ4 (upd H4 D (.lst (vs ++ [y]))) := Ext.upd (.inr mu)
      refine ⟨vs, hv, by rw [hr.length, lim_eq]; exact g2, hlt, μ4, _, acc ++ [d], e14.trans ex, R4.write (ob := .lst (acc ++ [d])) (eLast e14) mu ⟨_, upd_same, (hr.append (.cons r4 .nil)).ext ex⟩, g3⟩
    cases mt with
    | none =>
      unfold tst tYes
      dsimp only
      rw [if_pos rfl]
      exact more μ S H' (Ext.refl _ _) R2 tu
    | some t =>
      refine ⟨Sx.none_ G X.K W0 μ H', rfl, μ, S, ρ1.set i (some items[j]), ⟨Ext.refl _ _, R2, re2, trivial⟩, ?_⟩
      refine monoE hC t _ _ _ _ _ _ (fun z S3 g => ?_) (fun _ _ z => z) tu
      split at g
      · intro μ3 H3 e3 R3
        rw [if_pos rfl]
        exact more μ3 S3 H3 e3 R3 g
      · intro μ3 H3 e3 R3
        rw [if_neg Bool.false_ne_true]
        exact ⟨hlt, μ3, S3, acc, (e.trans e2).trans e3, R3, g⟩
      · exact g.elim
  · have ei : j = items.length := by omega
    subst ei
    rw [List.drop_length] at cn
    obtain ⟨st, ac, q2⟩ := cn
    exact .inl ⟨hl.stop _ μ S H e R st rfl, q2 μ H (.ref D) ((e0.trans eD).trans e) R (.ref (eLast e))⟩
/-- the parts of a comprehension's rule -/
structure CompR (G : Gl) (C : Calls) (hx : Option Nat) (X : Cx) (elt : Expr) (y : Str) (i : Nat) (pt : Pos) (iter : Expr) (ifs : List Expr) (scope : Scope) (src : Src) (me : Tm) (mt : Option Tm) : Prop where
  calm : X.calm = true
  nd : X.N.Nodup
  src : CI G C hx X (.Name y pt) iter src
  ok : BlkOk X.N X.env.scope scope [(y, i)]
  hg : ∀ (s : Shared) (H : Hp) (D : Addr) (cl : List (Str × Addr)) (fp : List Addr), PG (X.blk s H scope (compEnvC scope cl D X.env) fp) (.Name y pt) (gName i)
  ht : ∀ (s : Shared) (H : Hp) (D : Addr) (cl : List (Str × Addr)) (fp : List Addr), PTs (X.blk s H scope (compEnvC scope cl D X.env) fp) ifs (tst G X.K C hx mt)
  he : ∀ (s : Shared) (H : Hp) (D : Addr) (cl : List (Str × Addr)) (fp : List Addr), CE G C hx (X.blk s H scope (compEnvC scope cl D X.env) fp) elt me
  hs : ∀ x, foldedSetIterable iter X.env x = pure x
def compTm (me : Tm) (i : Nat) (src : Src) : Option Tm → Tm
  | none => .comp me i src
  | some t => .compIf me i src t
theorem comp_wp {me : Tm} {i : Nat} {src : Src} {mt : Option Tm} {ρ : Env} {S : Sto} {Q : PQ} {EX : PX} (h : wpE G.T C hx (compTm me i src mt) ρ S Q EX) :
    wpI G.T C hx src ρ S (fun w S1 => compN S1.length w.stand (turnOf G C hx i me mt ρ) (fun S2 => Q (.ref S1.length) S2) w.items [] (S1 ++ [.lst []])) EX := by
  cases mt with
  | none => exact h
  | some t => exact h
theorem comp_read (hC : MonoC C) {elt iter : Expr} {i : Nat} {pt : Pos} {ifs : List Expr} {scope : Scope} {src : Src} {me : Tm} {mt : Option Tm} {W : WX} (x : Sx G X.K W) {σ : L2.St} {H : Hp} {Q : VK} {μ : Mu} {S : Sto} {ρ : Env} (wd : Wd x σ H μ S ρ) (q : wpE G.T C hx (compTm me i src mt) ρ S (LQ G.N X.K μ H Q) x.EX) :
    tLc (fun σ H R => ∃ μ S ρ, Wd x σ H μ S ρ ∧ wpI G.T C hx src ρ S (fun w S1 => ∀ μ1 H1, Ext μ H μ1 H1 → Rel G.N X.K μ1 S1 H1 → ∀ J, SrcOk G X.K μ1 H1 J w.items w.stand → R J H1) x.EX) (gName i) (tst G X.K C hx mt) (LE0 G X.K (mE G C hx me)) [i] σ H Q := by
  refine ⟨μ, S, ρ, wd, monoI hC (comp_wp q) fun w S1 q1 μ1 H1 e1 R1 J hJ D hD => ?_⟩
  exact comp_core hC (wd.next e1 R1) e1 hJ q1 D hD
theorem ce_comp (hC : MonoC C) {elt iter : Expr} {i : Nat} {pt : Pos} {ifs : List Expr} {scope : Scope} {src : Src} {me : Tm} {mt : Option Tm} (r : CompR G C hx X elt y i pt iter ifs scope src me mt) : CE G C hx X (.ListComp elt [⟨.Name y pt, iter, ifs, 0⟩] scope pos) (compTm me i src mt) := fun W tk x =>
  (pe_lc (own := [(y, i)]) (te := LE0 G X.K (mE G C hx me)) r.calm r.nd (r.src W tk x) r.ok r.hg r.ht (fun s H D cl fp => pe0 (r.he s H D cl fp)) r.hs).imp fun σ H Q ⟨μ, S, ρ, wd, q⟩ => comp_read hC (elt := elt) (iter := iter) (pt := pt) (ifs := ifs) (scope := scope) x wd q
/-- z = [..] -/
theorem cs_asgLc (hC : MonoC C) {elt iter : Expr} {i j : Nat} {z : Str} {pt pz spos : Pos} {ifs : List Expr} {scope : Scope} {src : Src} {me : Tm} {mt : Option Tm} (r : CompR G C hx X elt y i pt iter ifs scope src me mt) (hz : X.N[j]? = some z) (hzl : X.env.scope.names.lookup z = some .local)
    (hsw : swapsWith (.ListComp elt [⟨.Name y pt, iter, ifs, 0⟩] scope pos) (some (.Name z pz)) spos.line X.env = pure true) : CS G C hx X (.Assign [.Name z pz] (.ListComp elt [⟨.Name y pt, iter, ifs, 0⟩] scope pos) spos) (.asg j (compTm me i src mt)) := fun W tk x ha => by
  refine (ps_setLc (own := [(y, i)]) (te := LE0 G X.K (mE G C hx me)) r.calm r.nd hz hzl hsw (r.src W tk x) r.ok r.hg r.ht (fun s H D cl fp => pe0 (r.he s H D cl fp)) r.hs).imp fun σ H D ⟨μ, S, ρ, k, wd, q, kd⟩ => ?_
  refine comp_read hC (elt := elt) (iter := iter) (pt := pt) (ifs := ifs) (scope := scope) x wd (monoE hC _ _ _ _ _ _ _ (fun d S1 q1 => ?_) (fun _ _ z => z) q)
  exact fun μ1 H1 v e1 R1 r1 => kd.nx μ1 H1 S1 _ _ e1 ((wd.next e1 R1).set ha r1) q1
end
end Mp
namespace Mp
open PySem PySem.Spec PyProof.Rows L2
/-- a def of the module that keeps its clean promise, and how it is called by its name -/
structure Cal (P : Program) (w : World) (K : PySem.W.Frag) (mg : Str → Option Value) (base : Heap) (G : Gl) (n : Nat) (f : Nat) (x : Str) (a : Addr) (fd : FuncData) (ps : List Str) : Prop where
  ok : FnOk P w K mg base (L2.CX P w) (2 * n) a fd ps (spOf G K n f)
  mg : mg x = some (.ref a)
  kp : PySem.W.keepIn K (.ref a) = true
  bd : Binds K fd ps []
theorem LQ.later {N : Nms} {K : PySem.W.Frag} {μ μ1 : Mu} {H H1 : Hp} {Q : VK} {d : D} {S : Sto} (h : LQ N K μ H Q d S) (e : Ext μ H μ1 H1) : LQ N K μ1 H1 Q d S := fun μ' H' v e' => h μ' H' v (e.trans e')
section
variable {G : Gl} {X : Cx} {hx : Option Nat}
variable {e a b : Expr} {es : List Expr} {m ma mb : Tm} {ms : Tms} {pos p : Pos} {x y : Str} {n : Nat}
theorem ce_call {f : Nat} {ad : Addr} {fd : FuncData} {ps : List Str} (F : Cal X.prog X.w X.K X.mg X.base G n f x ad fd ps) (hr : Room (2 * n + 1) X.A) (hg : L2.Gl X x) (h : CEs G (wpCall G.T G.F n) hx X (e :: es) ms)
    (hdb : (x == ("__debug__" : Str)) = false := by decide) (he : starEach (e :: es) X.env = (false, eval e X.env) :: starEach es X.env := by rfl) (hpl : (backTo pos (starEach es X.env)).any (·.1) = false := by rfl) :
    CE G (wpCall G.T G.F n) hx X (.Call (.Name x p) (e :: es) [] pos) (.call f ms) := fun W tk z => by
  have hC := wpCall_mono G.T G.F n
  refine (pe_callS F.ok (hr.mono (Nat.le_succ _)) hg F.mg F.kp F.bd (fun σ => passAt tk σ) (h.pa hC tk z) hdb he hpl).imp fun σ H Q ⟨μ, S, ρ, wd, q⟩ => ?_
  refine bindA (monoEs hC ms) wd q fun vs H1 μ1 S1 ds e1 w1 r1 q1 => ?_
  refine ⟨μ1, S1, ds, w1.rel, r1, hC _ _ _ _ _ _ _ (fun d S' q2 => LQ.later q2 e1) (fun c S' q2 => ?_) q1⟩
  exact fun μ' H' Ca e' R' hk => z.ok c S' μ' H' σ Ca q2 (w1.ext.trans e') R' (z.mono e' w1.p) hk
/-! ### raise -/
end
/-! ### a def -/
section
variable {P : Program} {w : World} {K : PySem.W.Frag} {mg : Str → Option Value} {base : Heap} {G : Gl}
theorem fn_zero {ps : List Str} {a : Addr} {fd : FuncData} {f : Nat} : FnOk P w K mg base (L2.CX P w) 0 a fd ps (spOf G K 0 f) :=
  ⟨fun vs H Q E ⟨_, _, _, _, _, h⟩ => h.elim, fun A outer s H args us vs Q E _ _ _ _ ⟨_, _, _, _, _, h⟩ => h.elim⟩
theorem start_re {μ : Mu} {H : Hp} {N : List Str} {vs : List V} {ds : List D} (h : RDs K μ H vs ds) : RE K μ H (ds.map some ++ List.replicate (N.length - ds.length) none) (L2.start N vs) := by
  unfold L2.start
  rw [h.length]
  refine ⟨by simp [h.length], fun i d e => ?_⟩
  by_cases hi : i < ds.length
  · rw [List.getElem?_append_left (by simpa using hi), List.getElem?_map] at e
    rw [List.getElem?_append_left (by rw [List.length_map, h.length]; exact hi), List.getElem?_map]
    cases ed : ds[i]? with
    | none => rw [ed] at e; cases e
    | some d' =>
      rw [ed] at e
      cases e
      obtain ⟨v, hv, r⟩ := h.get ed
      exact ⟨v, by rw [hv]; rfl, r⟩
  · rw [List.getElem?_append_right (by simpa using Nat.le_of_not_lt hi)] at e
    rw [List.getElem?_replicate] at e
    split at e <;> cases e
/-- THE RULE for a def: its body as a clean body -/
theorem def_ok {x qual : Str} {st : Stmt} {a : Addr} {fd : FuncData} {N ps : List Str} {f n : Nat} {body : Cms} (F : L2.Fun K x qual st a fd) (S : FnScope N ps (defScope st)) (hF : G.F f = some ⟨ps.length, N.length, body⟩)
    (h : ∀ (cdv : Value) (A : Around) (outer : List PySem.Env) (s : Shared) (H : Hp) (E : XK), Room (2 * n + 1) (A.deeper (envOfC qual (defScope st) s.heap.objs.size a cdv)) →
      CSs G (wpCall G.T G.F n) none (cxOf (L2.CX P w) P w K mg base N qual (defScope st) a cdv A outer s H E) (defBody st) body) : FnOk P w K mg base (L2.CX P w) (2 * (n + 1)) a fd ps (spOf G K (n + 1) f) := by
  have len : ∀ vs H Q E, spOf G K (n + 1) f vs H Q E → vs.length = ps.length := fun vs H Q E ⟨μ, S', ds, R, r, q⟩ => by
    simp only [wpCall, hF] at q
    rw [r.length, q.1]
  refine F.okX (k := 2 * n + 1) S len fun cdv A outer s H vs Q E hr hsp => ?_
  obtain ⟨μ, S', ds, R, r, q⟩ := hsp
  simp only [wpCall, hF] at q
  have tk : Takes (cxOf (L2.CX P w) P w K mg base N qual (defScope st) a cdv A outer s H E) (fun cls d _ H => E cls d H) := takes_of rfl rfl rfl rfl
  refine ⟨_, h cdv A outer s H E hr (fun cls d _ H => E cls d H) tk ⟨μ, H, LX G.N K μ H E, fun _ _ _ => True, fun _ _ => trivial, fun c S2 μ' H' σ' C hE e R' _ hk => hE μ' H' C e R' hk⟩ fun _ _ _ => trivial, ?_⟩
  refine ⟨μ, S', _, _, ⟨Ext.refl _ _, R, start_re r, trivial⟩, q.1 ▸ q.2, ?_⟩
  exact ⟨fun μ' H' S2 σ' ρ' e w n => n μ' H' .non e w.rel .non, fun μ' H' S2 v d e R' rd n => n μ' H' v e R' rd, fun _ _ _ _ _ _ _ n => n.elim, fun _ _ _ _ _ _ _ n => n.elim⟩
/-- the facts that every derivation asks of its surroundings -/
theorem hu_of' {A : Around} {k : Nat} (hr : Room k A) : A.units + 65 < cLine := by have := hr.un; omega
/-- the law: what its clean body does is what is asked -/
theorem law_sp {n f : Nat} (hl : ∀ ns : List Int, ns.length ≤ 63 → wpCall G.T G.F n f [.lis (ns.map .int)] [] (fun d _ => d = .bl true) fun _ _ => False) (H : Hp) (a : Addr) (ns : List Int) (h1 : ns.length ≤ 63) (hO : Only H) (hS : SqL K H a (ns.map V.int)) :
    spOf G K n f [.ref a] H (fun v _ => v = .bl true) fun _ _ _ => False := by
  have hc : SqC K H a (ns.map V.int) := by
    rcases hS with (h | h) | h
    · rcases hO a with z | ⟨o, xs, z⟩
      · rw [h] at z; cases z
      · rw [h] at z; cases z
    · exact .inl h
    · exact .inr h
  refine ⟨fun _ => none, [], [.lis (ns.map .int)], ⟨(fun r ob h => by simp at h), (fun r q a h => nomatch h), (fun r a h => nomatch h)⟩, .cons (.lis hc (RDs.ints ns)) .nil, ?_⟩
  refine wpCall_mono G.T G.F n _ _ _ _ _ _ _ (fun d S' e => ?_) (fun _ _ z => z.elim) (hl ns h1)
  subst e
  exact fun μ' H' v _ _ r => r.bl_inv
theorem cx_none {H : Hp} {s : Shared} {e : Value} {s' : Shared} (h : L2.CX P w [] H s (fun _ _ _ => False) e s') : False := by
  obtain ⟨_, _, _, _, _, _, _, _, _, _, _, _, z⟩ := h
  exact z.elim
end
end Mp
/-! Operators that join several kinds: ==, !=, in, not in. -/
namespace Mp
open PySem PySem.Spec PyProof.Rows L2
section
variable {X : Cx}
theorem emp_map {pins : List (Addr × Obj)} {s : Shared} {σ : L2.St} {H : Hp} {p : Addr} {kx : HO} (I : Inv X pins σ H s) (h : H p = some kx) (e : kx = .dT [] ∨ kx = .dK []) : (p == sysModules) = false ∧ s.heap.DictOf (mixKind X.prog X.w) p [] := by
  rcases e with rfl | rfl
  · obtain ⟨_, hs, xs, r, o, es, ep, h1, h2, h3, h4, _⟩ := (show ObjOk X.prog X.w H s.heap p (.dT []) from I.hok p _ h)
    cases r
    have h5 : es.toList = [] := h4
    have h6 : es = #[] := by cases es; simpa using h5
    subst h6
    exact ⟨hs, o, #[], ep, h1, h2, h3, fun e he => by simp at he, by simpa using Pairs.nil, by simp⟩
  · obtain ⟨_, hs, vs, r, dd⟩ := dk_of I.hok h
    cases r
    exact ⟨hs, dd⟩
theorem op_eqE (hu : X.A.units + 64 < cLine) : OpR X (compareOp .Eq) (rEqE true) := by
  intro pins s σ H x y v u Q I rx ry h
  obtain ⟨p, q, kx, ky, rfl, rfl, h1, h2, e1, e2, hq⟩ := h
  obtain rfl : v = Value.ref p := rx
  obtain rfl : u = Value.ref q := ry
  obtain ⟨s1, d1⟩ := emp_map I h1 e1
  obtain ⟨s2, d2⟩ := emp_map I h2 e2
  exact PySem.W.keq_eq (r := true) s1 s2 d1 d2 (by omega) (fun _ => .nil) ⟨.bl _, H, I, rfl, hq⟩
theorem op_neE (hu : X.A.units + 64 < cLine) : OpR X (compareOp .NotEq) (rEqE false) := by
  intro pins s σ H x y v u Q I rx ry h
  obtain ⟨p, q, kx, ky, rfl, rfl, h1, h2, e1, e2, hq⟩ := h
  obtain rfl : v = Value.ref p := rx
  obtain rfl : u = Value.ref q := ry
  obtain ⟨s1, d1⟩ := emp_map I h1 e1
  obtain ⟨s2, d2⟩ := emp_map I h2 e2
  exact PySem.W.keq_ne (r := true) s1 s2 d1 d2 (by omega) (fun _ => .nil) ⟨.bl _, H, I, rfl, hq⟩
theorem op_eqAll (hu : X.A.units + 65 < cLine) : OpR X (compareOp .Eq) (fun x y H Q => rEqD X.K x y H Q ∨ rEqE true x y H Q) := (op_eqD (by omega)).or (op_eqE (by omega))
theorem op_neAll (hu : X.A.units + 65 < cLine) : OpR X (compareOp .NotEq) (fun x y H Q => rNeD X.K x y H Q ∨ rEqE false x y H Q) := (op_neD (by omega)).or (op_neE (by omega))
theorem op_inDt (hu : X.A.units + 65 < cLine) : OpR X (compareOp .In) (rInDt false) := by
  intro pins s σ H x y v u Q I rx ry h
  obtain ⟨a, o, rfl, g, q⟩ := h
  obtain rfl : u = Value.ref a := ry
  exact d_in (A := X.A) (by omega) I g rx fun s' I' => ⟨.bl _, H, I', rfl, q⟩
theorem op_ninDt (hu : X.A.units + 65 < cLine) : OpR X (compareOp .NotIn) (rInDt true) := by
  intro pins s σ H x y v u Q I rx ry h
  obtain ⟨a, o, rfl, g, q⟩ := h
  obtain rfl : u = Value.ref a := ry
  exact d_notIn (A := X.A) (by omega) I g rx fun s' I' => ⟨.bl _, H, I', rfl, q⟩
theorem op_inAll (hu : X.A.units + 65 < cLine) : OpR X (compareOp .In) (rInn X.K false) := OpR.or (r := rInS false) op_in_sign (OpR.or (r := rInQ X.K false) (op_inD hu) (op_inDt hu))
theorem op_ninAll (hu : X.A.units + 65 < cLine) : OpR X (compareOp .NotIn) (rInn X.K true) := OpR.or (r := rInS true) op_notIn_sign (OpR.or (r := rInQ X.K true) (op_notInD hu) (op_ninDt hu))
end
section
variable {G : Gl} {X : Cx} {C : Calls} {hx : Option Nat}
theorem ct_chain (hC : MonoC C) {o1 o2 : Op} {op op' : CmpOp} {r r' : R2} {a b c : Expr} {ma mb mc : Tm} {pos : Pos} (ho : OpR X (compareOp op) r) (ho' : OpR X (compareOp op') r') (hv : VOk2 G X.K o1 r) (hv' : VOk2 G X.K o2 r')
    (ha : CE G C hx X a ma) (hb : CE G C hx X b mb) (hc : CE G C hx X c mc) (hm : lastMarks [op, op'] [b, c] = false) : CT G C hx X (.Compare a [op, op'] [b, c] pos) (.chain o1 o2 ma mb mc) := fun W tk x => by
  refine (pt_chain ho ho' (ha W tk x) (hb W tk x) (hc W tk x) hm).imp fun σ H Q ⟨μ, S, ρ, wd, q⟩ => ?_
  refine bindW (monoE hC ma) wd q fun v H1 μ1 S1 d e1 w1 r1 q1 => ?_
  refine bindW (monoE hC mb) w1 q1 fun u H2 μ2 S2 d' e2 w2 r2 q2 => ?_
  refine hv μ2 H2 μ2 S2 H2 [v, u] [d, d'] _ (Ext.refl _ _) w2.rel (.cons (r1.ext e2) (.cons r2 .nil)) (opD_mono q2 fun z S3 q3 => ?_) v u rfl
  cases z with
  | bl k =>
    intro μ3 H3 v3 e3 rel3 rd
    refine ⟨k, rd.bl_inv, ?_⟩
    cases k with
    | false => rw [if_neg Bool.false_ne_true]; exact ⟨false, rfl, q3 μ3 H3 ((e1.trans e2).trans e3) rel3⟩
    | true =>
      rw [if_pos rfl]
      refine bindW (monoE hC mc) (w2.next e3 rel3) q3 fun w H4 μ4 S4 d4 e4 w4 r4 q4 => ?_
      refine hv' μ4 H4 μ4 S4 H4 [u, w] [d', d4] _ (Ext.refl _ _) w4.rel (.cons ((r2.ext e3).ext e4) (.cons r4 .nil)) (opD_mono q4 fun z S5 q5 => ?_) u w rfl
      cases z with
      | bl k => exact fun μ5 H5 v5 e5 rel5 rd5 => ⟨k, rd5.bl_inv, q5 μ5 H5 ((((e1.trans e2).trans e3).trans e4).trans e5) rel5⟩
      | _ => exact q5.elim
  | _ => exact q3.elim
theorem tys_of {o : Op} (h : ∀ S x, tyOk o S x = (match x with
    | .str _ => true
    | _ => false)) : ∀ S d, tyOk o S d = true → ∃ s, d = .str s := fun S d t => by
  rw [h] at t
  cases d with
  | str s => exact ⟨s, rfl⟩
  | _ => cases t
theorem ty_join {K : PySem.W.Frag} : TYM G K .join "str" := ty_str (tys_of fun _ _ => rfl)
theorem nostar {e : Expr} (h : (match e with
    | .Starred _ _ => true
    | _ => false) = false) : ∀ (y : Expr) (p : Pos), e ≠ .Starred y p := fun y p z => by subst z; exact nomatch h
end
end Mp
/-! < of numbers and of tuples of texts; text * int. -/
namespace Mp
open PySem PySem.Spec PyProof.Rows L2 PySem.W
section
variable {X : Cx} {G : Mp.Gl} {K : PySem.W.Frag}
def sD (s : List Nat) : PyData := .str ⟨s.toArray⟩
theorem alike_strs : ∀ p q : List (List Nat), alikeAll (p.map sD) (q.map sD) = true
  | [], q => by simp [alikeAll]
  | a :: p, [] => by simp [alikeAll]
  | a :: p, b :: q => by
    have := alike_strs p q
    simp only [List.map_cons, alikeAll, sD, alike, Bool.true_and]
    exact this
theorem eqv_str (a b : List Nat) : PyData.eqv (sD a) (sD b) = decide (a = b) := by
  unfold sD
  rw [PyData.eqv]
  by_cases h : a = b
  · subst h; simp
  · have : (⟨a.toArray⟩ : Str) ≠ ⟨b.toArray⟩ := fun z => h (by have := congrArg (fun s => s.cps.toList) z; simpa using this)
    simp [h, this]
theorem lex_strs : ∀ p q : List (List Nat), PyProof.Rows.lexLt itemOrd (keyToksAll (p.map sD)) (keyToksAll (q.map sD)) = lexL p q
  | [], [] => by decide +kernel
  | [], b :: q => by
    rw [List.map_nil, List.map_cons, toks_all_cons, show keyToksAll [] = [Sum.inl 0] by rw [keyToksAll], lexL]
    exact (lex_diff (O := itemOrd) (by simp)).trans (by decide)
  | a :: p, [] => by
    rw [List.map_nil, List.map_cons, toks_all_cons, show keyToksAll [] = [Sum.inl 0] by rw [keyToksAll], lexL]
    exact (lex_diff (O := itemOrd) (by simp)).trans (by decide)
  | a :: p, b :: q => by
    have hal : alike (sD a) (sD b) = true := by simp [sD, alike]
    rw [List.map_cons, List.map_cons, lexL]
    by_cases h : a = b
    · rw [dataLt_all_yes hal (by rw [eqv_str]; simp [h]), if_pos h, lex_strs p q]
    · rw [dataLt_all_no hal (by rw [eqv_str]; simp [h]), if_neg h]
      unfold sD
      rw [dataLt_str]
def rLtX (K : PySem.W.Frag) : R2 := fun x y H Q => ∃ p q : List (List Nat), Dp K H x (.tuple (p.map sD)) ∧ Dp K H y (.tuple (q.map sD)) ∧ Q (.bl (lexL p q)) H
theorem depth_strs : ∀ p : List (List Nat), PyData.depthAll (p.map sD) = 0
  | [] => by simp [PyData.depthAll]
  | a :: p => by rw [List.map_cons, PyData.depthAll, depth_strs p]; simp [sD, PyData.depth]
theorem op_ltX (hu : X.A.units + 65 < cLine) : OpR X (compareOp .Lt) (rLtX X.K) := by
  intro pins s σ H x y v u Q I rx ry h
  obtain ⟨p, q, hd, he, hq⟩ := h
  obtain ⟨as, r1⟩ := Dp.reads I _ x v hd rx
  obtain ⟨bs, r2⟩ := Dp.reads I _ y u he ry
  have := rcLt_alike (.tuple (p.map sD)) (.tuple (q.map sD)) X.A s v u as bs r1 r2 (by rw [alike]; exact alike_strs p q) (by simp) (by
    rw [PyData.depth, PyData.depth, depth_strs, depth_strs]; omega)
  refine this X.prog X.w X.xe _ ?_
  rw [dataLt_tuple, lex_strs]
  exact ⟨.bl _, H, I, rfl, hq⟩
def rLtAll (K : PySem.W.Frag) : R2 := fun x y H Q => rI0 (fun i j => .bl (decide (i < j))) x y H Q ∨ rLtX K x y H Q
theorem op_ltAll (hu : X.A.units + 65 < cLine) : OpR X (compareOp .Lt) (rLtAll X.K) := op_lt.or (op_ltX hu)
theorem strs_mapM : ∀ {ds : List D} {p : List (List Nat)}, ds.mapM (fun d => match d with
    | .str s => some s
    | _ => none) = some p → ds = p.map .str
  | [], p, h => by rw [mapM_nil h]; rfl
  | d :: ds, p, h => by
    obtain ⟨b, bs, h1, h2, rfl⟩ := mapM_cons h
    rw [strs_mapM h2]
    cases d with
    | str s => cases h1; rfl
    | _ => cases h1
theorem strsOf_eq {d : D} {p : List (List Nat)} (h : strsOf d = some p) : d = .tup (p.map .str) := by
  cases d with
  | tup ds => rw [strs_mapM (show ds.mapM _ = some p from h)]
  | _ => cases h
theorem dp_strs {μ : Mu} {H : Hp} : ∀ {p : List (List Nat)} {vs : List V}, RDs K μ H vs (p.map .str) → DpAll K H vs (p.map sD)
  | [], vs, h => by cases h; exact .nil
  | a :: p, vs, h => by
    cases h with
    | cons h1 h2 => rw [h1.str_inv]; exact .cons (.str _) (dp_strs h2)
theorem dp_tup {μ : Mu} {H : Hp} {p : List (List Nat)} {v : V} (h : RD K μ H v (.tup (p.map .str))) : Dp K H v (.tuple (p.map sD)) := by
  obtain ⟨a, vs, rfl, g1, g2⟩ := h.tup_inv
  exact .tup (Mp.SqT.ofT g1) (dp_strs g2)
theorem vf_ltX : VOF2 G K oLtT (rLtX K) := fun μ0 H0 μ S H vs ds Q d S' e R rd h q x y hv => by
  subst hv
  obtain ⟨a, b, rfl, h1, h2⟩ := rd.inv2
  unfold oLtT at h
  simp only at h
  split at h
  · rename_i p t e1 e2
    cases h
    rw [strsOf_eq e1] at h1; rw [strsOf_eq e2] at h2
    exact ⟨p, t, dp_tup h1, dp_tup h2, q.give e R (.bl _)⟩
  · cases h
theorem vk_lt : VOk2 G K .lt (rLtAll K) := VOF.ok (f := orF (oCmp fun i j => decide (i < j)) oLtT) (vf_ltI.or vf_ltX) rfl
/-! ### text * int -/
theorem fold_rep (a : List Nat) : ∀ (k : Nat) (acc : Array Nat), ((List.replicate k a.toArray).foldl (· ++ ·) acc) = acc ++ ((List.replicate k a).flatten).toArray
  | 0, acc => by simp
  | k + 1, acc => by
    rw [List.replicate_succ, List.foldl_cons, fold_rep a k, List.replicate_succ, List.flatten_cons]
    simp [Array.append_assoc]
theorem op_mulS : OpR X (binaryOp .Mult) rMulS := by
  intro pins s σ H x y v u Q I rx ry h
  obtain ⟨a, k, rfl, rfl, hk, hl, hq⟩ := h
  obtain ⟨t, rfl⟩ := rx
  obtain ⟨t', rfl⟩ := ry
  have sl : (sizeLine : Nat) ≤ 16777216 := by decide
  have fin : ∀ z s', RelV (.str (SX.S (List.replicate k.toNat a.cps.toList).flatten)) z → Inv X pins σ H s' → EP X pins σ Q z s' := fun z s' r i => ⟨_, H, i, r, hq⟩
  refine PySem.P.mul_str (by
    have h1 : ¬ k < -(2 ^ 63 : Int) := by omega
    have h2 : ¬ k ≥ (2 ^ 63 : Int) := by omega
    rw [decide_eq_false h1, decide_eq_false h2]; rfl) (fun h1 _ => ?_) (fun _ _ => ?_) ?_
  · have : (a.length : Int) ≤ (2 ^ 63 - 1) / k := by
      rw [Int.le_ediv_iff_mul_le (by omega)]
      have e : ((a.length * k.toNat : Nat) : Int) = (a.length : Int) * k := by
        rw [Int.natCast_mul, Int.toNat_of_nonneg (by omega)]
      rw [← e]
      omega
    omega
  · unfold PySem.Builtin.Str.tooLong
    exact decide_eq_false (by omega)
  · split
    · rename_i h1
      have : k.toNat = 0 := by omega
      rw [this] at fin
      exact ⟨by decide, fin _ _ ⟨_, rfl⟩ (I.tok _)⟩
    · rename_i h1
      split
      · rename_i h2
        rw [Bool.or_eq_true] at h2
        have e : SX.S (List.replicate k.toNat a.cps.toList).flatten = a := by
          rcases h2 with h2 | h2
          · have : k = 1 := by simpa using h2
            subst this
            simp [SX.S]
          · have : a.cps.toList = [] := by
              have : a.cps.size = 0 := by simpa [Str.length] using h2
              simpa using this
            rw [this]
            have : (List.replicate k.toNat ([] : List Nat)).flatten = [] := by simp
            rw [this]
            have h3 : a.cps = #[] := by simpa using ‹a.cps.toList = []›
            cases a; simp_all [SX.S]
        rw [e] at fin
        exact fin _ _ ⟨_, rfl⟩ I
      · rename_i h2
        have e : (⟨(List.replicate k.toNat a.cps).foldl (· ++ ·) #[]⟩ : Str) = SX.S (List.replicate k.toNat a.cps.toList).flatten := by
          have := fold_rep a.cps.toList k.toNat #[]
          simp only [Array.toArray_toList] at this
          rw [this]; simp [SX.S]
        refine ⟨?_, ?_⟩
        · rw [e]
          have el : (SX.S (List.replicate k.toNat a.cps.toList).flatten).length = k.toNat * a.length := by
            simp [SX.S, Str.length]
          rw [el, Nat.mul_comm]
          exact hl
        · rw [e]; exact fin _ _ ⟨_, rfl⟩ (I.tok _)
theorem op_mulAll : OpR X (binaryOp .Mult) rMulAll := op_mul.or op_mulS
variable {C : Calls} {hx : Option Nat} {a : Expr} {ma : Tm} {pos : Pos}
theorem ct_notN (hC : MonoC C) {j pos'} (ha : Mp.CE G C hx X a ma) : CT G C hx X (.Compare a [.IsNot] [.Constant .none j pos'] pos) (.op .notN (.cons ma .nil)) := fun W tk y => by
  refine (pt_cmp (pc_notN (ha W tk y)) rfl).imp fun σ H Q ⟨μ, S, ρ, wd, q⟩ => ?_
  refine bindW (monoE hC ma) wd q fun v H1 μ1 S1 d e1 w1 r1 q1 => ?_
  have q2 : opD G.T .notN [d] S1 (fun d S' => match d with
    | .bl b => ∀ μ' H', Ext μ H μ' H' → Rel G.N X.K μ' S' H' → Q b H'
    | _ => False) := q1
  obtain ⟨z, S3, hz, q3⟩ := opD_some q2
  cases hz
  exact ⟨_, by rw [isN_ok r1], q3 μ1 H1 e1 w1.rel⟩
end
end Mp
/-! sorted(d) of a dict whose keys are pairs of texts. -/
namespace Mp
open PySem PySem.Spec PyProof.Rows L2 PySem.W
def eT (t : List (List Nat)) : PyData := .tuple (t.map sD)
/-! the clean side -/
end Mp
/-! for k, v in d.items() of a dict whose keys are tuples; for k in d. -/
namespace Mp
open PySem PySem.Spec PyProof.Rows L2
/-! ### the clean side -/
section
variable {G : Mp.Gl} {K : PySem.W.Frag}
theorem RKT.get {μ : Mu} {H : Hp} : ∀ {kv : List (List L2.Key × V)} {kvs : List (D × D)} {i : Nat} {kd ed : D}, RKT K μ H kv kvs → kvs[i]? = some (kd, ed) → ∃ k v ds, kv[i]? = some (k, v) ∧ kd = .tup ds ∧ RDs K μ H (k.map kV) ds ∧ RD K μ H v ed
  | _, _, 0, kd, ed, .cons h1 h2 h3 h4, e => by
    simp only [List.getElem?_cons_zero, Option.some.injEq, Prod.mk.injEq] at e
    obtain ⟨e1, e2⟩ := e
    subst e1 e2
    exact ⟨_, _, _, rfl, rfl, h2, h3⟩
  | _, _, i + 1, kd, ed, .cons h1 h2 h3 h4, e => by
    rw [List.getElem?_cons_succ] at e ⊢
    exact RKT.get h4 e
theorem RK1.get {μ : Mu} {H : Hp} : ∀ {kv : List (L2.Key × V)} {kvs : List (D × D)} {i : Nat} {kd ed : D}, RK1 K μ H kv kvs → kvs[i]? = some (kd, ed) → ∃ k v, kv[i]? = some (k, v) ∧ RD K μ H (kV k) kd ∧ RD K μ H v ed
  | _, _, 0, kd, ed, .cons h1 h2 h3 h4, e => by
    simp only [List.getElem?_cons_zero, Option.some.injEq, Prod.mk.injEq] at e
    obtain ⟨e1, e2⟩ := e
    subst e1 e2
    exact ⟨_, _, rfl, h2, h3⟩
  | _, _, i + 1, kd, ed, .cons h1 h2 h3 h4, e => by
    rw [List.getElem?_cons_succ] at e ⊢
    exact RK1.get h4 e
end
end Mp
/-! for x in v (a dict's keys, or the items of a list); {k: c}; l.index(x). -/
namespace Mp
open PySem PySem.Spec PyProof.Rows L2
theorem _root_.L2.PS.or {X : Cx} {st : Stmt} {t t' : TS} (h : PS X st t) (h' : PS X st t') : PS X st (fun D σ H => t D σ H ∨ t' D σ H) := ⟨fun pins s σ H D I q => q.elim (h.run pins s σ H D I) (h'.run pins s σ H D I)⟩
end Mp
/-! try: y = e / except C as n: a plain suite. -/
namespace Mp
open PySem PySem.Spec PyProof.Rows L2
/-- no exception is let out of an except suite -/
def WN : WX := fun _ _ _ _ => False
/-- the slot ie holds the exception at a -/
structure HX {G : Gl} {K : PySem.W.Frag} (ie : Nat) (a : Addr) (x : Sx G K WN) : Prop where
  has : ∀ {μ H σ}, x.P μ H σ → σ[ie]? = some (some (.ref a))
  set : ∀ {j v μ H σ}, j ≠ ie → x.P μ H σ → x.P μ H (σ.set j (some v))
section
variable {G : Gl} {C : Calls} {k ie : Nat} {a : Addr} {X : Cx} {e : Expr} {es : List Expr} {m : Tm} {ms : Tms} {pos p : Pos} {y : Str} {st : Stmt} {sts : List Stmt} {c : Cm} {cs : Cms}
def HE (G : Gl) (C : Calls) (k ie : Nat) (a : Addr) (X : Cx) (e : Expr) (m : Tm) : Prop := ∀ x : Sx G X.K WN, HX ie a x → PE X e (LE x (mE G C (some k) m))
theorem HE.of (tk : Takes X WN) (h : CE G C (some k) X e m) : HE G C k ie a X e m := fun x _ => h WN tk x
inductive HEs (G : Gl) (C : Calls) (k ie : Nat) (a : Addr) (X : Cx) : List Expr → Tms → Prop
  | nil : HEs G C k ie a X [] .nil
  | cons {e : Expr} {es : List Expr} {m : Tm} {ms : Tms} : HE G C k ie a X e m → (∀ (y : Expr) (p : Pos), e ≠ .Starred y p) → HEs G C k ie a X es ms → HEs G C k ie a X (e :: es) (.cons m ms)
theorem HEs.pa (hC : MonoC C) (h : HEs G C k ie a X es ms) (x : Sx G X.K WN) (hx : HX ie a x) : PA X es (LA x (mEs G C (some k) ms)) := by
  induction h with
  | nil => exact pa_nil.imp fun σ H Q ⟨μ, S, ρ, wd, q⟩ => q μ H [] (Ext.refl _ _) wd.rel .nil
  | @cons e es m ms h1 hs h2 ih =>
    refine (pa_cons (h1 x hx) ih (starEach_cons hs _ _)).imp fun σ H Q ⟨μ, S, ρ, wd, q⟩ => ?_
    refine bindW (monoE hC m) wd q fun v H1 μ1 S1 d e1 w1 r1 q1 => ?_
    refine bindA (monoEs hC ms) w1 q1 fun vs H2 μ2 S2 ds e2 w2 r2 q2 => ?_
    exact q2 μ2 H2 (v :: vs) (e1.trans e2) w2.rel (.cons (r1.ext e2) r2)
theorem he_lst (hC : MonoC C) (h : HEs G C k ie a X es ms) : HE G C k ie a X (.List es pos) (.op .lst ms) := fun x hx => by
  refine (pe_lst (h.pa hC x hx)).imp fun σ H Q ⟨μ, S, ρ, wd, q⟩ => ?_
  refine bindA (monoEs hC ms) wd q fun vs H1 μ1 S1 ds e1 w1 r1 q1 => ?_
  exact vk_lst μ H μ1 S1 H1 vs ds Q e1 w1.rel r1 q1
/-! ### isinstance of the exception -/
variable {D : Addr} {oe : Obj} {pn : List (Addr × Obj)} {cl : Cl} {vc : V} {u : Value} {xc : Expr} {pe : Pos}
theorem he_isE (hD : L2.ExcC X.K D) (hz : Zc (.ref D) none oe) (hf : ∃ vs, oe.data = .fields vs) (hN : X.N[ie]? = some y) (hv : Vis X.env.scope y) (hd : (y == ("__debug__" : Str)) = false) (hcd : (y == ("__classdict__" : Str)) = false)
    (hc : PE (X.suite a ((a, oe) :: pn)) xc (tC vc)) (hvc : ClsV vc u) (hk : PySem.W.kitOne X.K (.ref D) u = some (excIs G.T k cl)) (hg : L2.Gl X "isinstance") (hm : X.mg "isinstance" = none)
    (he : starEach (.Name y pe :: [xc]) X.env = (false, eval (.Name y pe) X.env) :: starEach [xc] X.env := by rfl) (hpl : (backTo pos (starEach [xc] X.env)).any (·.1) = false := by rfl)
    (hs1 : starEach [xc] X.env = (false, eval xc X.env) :: starEach [] X.env := by rfl) : HE G C k ie a (X.suite a ((a, oe) :: pn)) (.Call (.Name "isinstance" p) [.Name y pe, xc] [] pos) (.isE [cl]) := fun x hx => by
  refine (pe_callB (X := X.suite a ((a, oe) :: pn)) (call_isE hD hz hf) hg hm (by decide +kernel) (pa_cons (pe_var (X := X.suite a ((a, oe) :: pn)) hN hv hd hcd) (pa_cons hc pa_nil hs1) he) (by decide) (by decide) he hpl).imp fun σ H Q ⟨μ, S, ρ, wd, q⟩ => ?_
  have q' : LQ G.N X.K μ H Q (.bl ([cl].any (excIs G.T k))) S := q
  refine ⟨_, hx.has wd.p, vc, u, excIs G.T k cl, rfl, fun w r => hvc.eq r, hk, ?_⟩
  have := q' μ H (.bl ([cl].any (excIs G.T k))) (Ext.refl _ _) wd.rel (.bl _)
  simpa using this
/-- .. of one of a tuple's classes -/
def rIsET (K : PySem.W.Frag) (D a : Addr) : List V → Hp → VK → Prop := fun xs H Q => ∃ (tp : Addr) (cs : List V) (us : List Value) (b : Bool), xs = [.ref a, .ref tp] ∧ H tp = some (.tup cs) ∧ Paired ClsV cs us ∧ PySem.W.kitAny K (.ref D) us = some b ∧ Q (.bl b) H
theorem call_isET (Cd : L2.ExcC X.K D) (hz : Zc (.ref D) none oe) (hf : ∃ vs, oe.data = .fields vs) : CallR (X.suite a ((a, oe) :: pn)) (.builtin "isinstance") (rIsET X.K D a) := by
  intro pins s σ H xs us Q I r h
  obtain ⟨tp, cs, ws, b, rfl, hT, kc, e, q⟩ := h
  obtain ⟨u1, u2, rfl, r1, r2⟩ := vals2 r
  cases (show u1 = Value.ref a from r1)
  cases (show u2 = Value.ref tp from r2)
  obtain ⟨hget, _⟩ := I.pin (a, oe) (List.mem_append.mpr (.inl List.mem_cons_self))
  obtain ⟨vs, hv⟩ := hf
  have J : PySem.W.InstAt s.heap a oe D none := by
    obtain ⟨oc, od, oda, osl⟩ := oe
    obtain ⟨h1, h2⟩ := hz
    dsimp only at h1 h2 hv
    subst h1 h2 hv
    exact ⟨hget, rfl, rfl, trivial⟩
  obtain ⟨_, its, rv, o, h1, h2, n, h3⟩ := (show ObjOk X.prog X.w H s.heap tp (.tup cs) from I.hok tp _ hT)
  have e3 := ClsV.all kc rv
  subst e3
  obtain ⟨oc, od, dt, sl⟩ := o
  simp only at h2 h3
  subst h2 h3
  exact PySem.W.kia_tup (PySem.W.handS_kitx_exc Cd.hg Cd.hk Cd.hs Cd.hd Cd.ha Cd.hn Cd.ht Cd.hm) I.kIn J h1 e (fun z => nomatch z) fun tk => ⟨.bl b, H, I.kept (t' := tk) fun _ _ z => z, rfl, q⟩
inductive ClsL (G : Gl) (K : PySem.W.Frag) (X : Cx) (k : Nat) (D : Addr) : List Expr → List Cl → List V → List Value → Prop
  | nil : ClsL G K X k D [] [] [] []
  | cons {xc : Expr} {vc : V} {u : Value} {cl : Cl} {es : List Expr} {cls : List Cl} {vs : List V} {us : List Value} : PE X xc (tC vc) → ClsV vc u → PySem.W.kitOne K (.ref D) u = some (excIs G.T k cl) → (∀ (y : Expr) (p : Pos), xc ≠ .Starred y p) → ClsL G K X k D es cls vs us → ClsL G K X k D (xc :: es) (cl :: cls) (vc :: vs) (u :: us)
theorem ClsL.pa {K : PySem.W.Frag} {cls : List Cl} {vs : List V} {us : List Value} (h : ClsL G K X k D es cls vs us) : PA X es (fun σ H Q => Q vs H) := by
  induction h with
  | nil => exact pa_nil.imp fun σ H Q q => q
  | cons h1 h2 h3 h4 h5 ih => exact (pa_cons h1 ih (starEach_cons h4 _ _)).imp fun σ H Q q => q
theorem ClsL.paired {K : PySem.W.Frag} {cls : List Cl} {vs : List V} {us : List Value} (h : ClsL G K X k D es cls vs us) : Paired ClsV vs us := by
  induction h with
  | nil => exact .nil
  | cons h1 h2 h3 h4 h5 ih => exact .cons h2 ih
theorem ClsL.any {K : PySem.W.Frag} {cls : List Cl} {vs : List V} {us : List Value} (h : ClsL G K X k D es cls vs us) : PySem.W.kitAny K (.ref D) us = some (cls.any (excIs G.T k)) := by
  induction h with
  | nil => rfl
  | @cons xc vc u cl es cls vs us h1 h2 h3 h4 h5 ih =>
    refine kitAny_cons h3 (fun z => ?_) fun z => ?_
    · rw [ih, List.any_cons, z, Bool.false_or]
    · rw [List.any_cons, z, Bool.true_or]
theorem ClsL.len {K : PySem.W.Frag} {cls : List Cl} {vs : List V} {us : List Value} (h : ClsL G K X k D es cls vs us) : vs.length = es.length := by
  induction h with
  | nil => rfl
  | cons h1 h2 h3 h4 h5 ih => simp [ih]
theorem he_isET {cls : List Cl} {vs : List V} {us : List Value} {kk : Nat} {pt : Pos} (hD : L2.ExcC X.K D) (hz : Zc (.ref D) none oe) (hf : ∃ vs, oe.data = .fields vs) (hN : X.N[ie]? = some y) (hv : Vis X.env.scope y) (hd : (y == ("__debug__" : Str)) = false) (hcd : (y == ("__classdict__" : Str)) = false)
    (hl : es.length ≤ sizeLine) (hc : ClsL G X.K (X.suite a ((a, oe) :: pn)) k D es cls vs us) (hg : L2.Gl X "isinstance") (hm : X.mg "isinstance" = none)
    (he : starEach (.Name y pe :: [.Tuple es kk pt]) X.env = (false, eval (.Name y pe) X.env) :: starEach [.Tuple es kk pt] X.env := by rfl) (hpl : (backTo pos (starEach [.Tuple es kk pt] X.env)).any (·.1) = false := by rfl)
    (hs1 : starEach [.Tuple es kk pt] X.env = (false, eval (.Tuple es kk pt) X.env) :: starEach [] X.env := by rfl) : HE G C k ie a (X.suite a ((a, oe) :: pn)) (.Call (.Name "isinstance" p) [.Name y pe, .Tuple es kk pt] [] pos) (.isE cls) := fun x hx => by
  refine (pe_callB (X := X.suite a ((a, oe) :: pn)) (call_isET hD hz hf) hg hm (by decide +kernel) (pa_cons (pe_var (X := X.suite a ((a, oe) :: pn)) hN hv hd hcd) (pa_cons (pe_tup hc.pa) pa_nil hs1) he) (by decide) (by decide) he hpl).imp fun σ H Q ⟨μ, S, ρ, wd, q⟩ => ?_
  have q' : LQ G.N X.K μ H Q (.bl (cls.any (excIs G.T k))) S := q
  refine ⟨_, hx.has wd.p, by rw [hc.len]; exact hl, fun tp hn => ⟨tp, vs, us, _, rfl, upd_same, hc.paired, hc.any, ?_⟩⟩
  exact q' μ _ _ (Ext.upd (.inl hn)) (wd.rel.other (wd.rel.fresh hn) (.inl hn)) (.bl _)
/-! ### the suite -/
def HS (G : Gl) (C : Calls) (k ie : Nat) (a : Addr) (X : Cx) (st : Stmt) (c : Cm) : Prop := ∀ x : Sx G X.K WN, HX ie a x → PS X st (LS x (mC G C (some k) c))
def HSs (G : Gl) (C : Calls) (k ie : Nat) (a : Addr) (X : Cx) (st : List Stmt) (c : Cms) : Prop := ∀ x : Sx G X.K WN, HX ie a x → PSs X st (LS x (mCs G C (some k) c))
theorem hss_nil : HSs G C k ie a X [] .nil := fun x ha => pss_nil.imp fun σ H D ⟨μ, S, ρ, k, wd, q, kd⟩ => kd.nx μ H S σ ρ (Ext.refl _ _) wd q
theorem hss_cons (h1 : HS G C k ie a X st c) (h2 : HSs G C k ie a X sts cs) : HSs G C k ie a X (st :: sts) (.cons c cs) := fun x ha => by
  refine (pss_cons (h1 x ha) (h2 x ha)).imp fun σ H D ⟨μ, S, ρ, k, wd, q, kd⟩ => ?_
  refine ⟨μ, S, ρ, _, wd, q, ?_, kd.rt, kd.bk, kd.ct⟩
  exact fun μ' H' S' σ' ρ' e w n => ⟨μ', S', ρ', k, w, n, kd.ext e⟩
theorem hs_asg (hC : MonoC C) {i : Nat} {pos' : Pos} (hN : X.N.Nodup) (hi : X.N[i]? = some y) (hy : Loc X.env.scope y) (hf : X.fn y = true ∨ X.env.scope.names.lookup y = some .local) (hie : i ≠ ie) (h : HE G C k ie a X e m)
    (hs : swapsWith e (some (.Name y pos')) pos.line X.env = pure false := by rfl) : HS G C k ie a X (.Assign [.Name y pos'] e pos) (.asg i m) := fun x ha => by
  refine (ps_set hN hi hy (h x ha) hs hf).imp fun σ H D ⟨μ, S, ρ, k, wd, q, kd⟩ => ?_
  refine bindW (monoE hC m) wd q fun v H1 μ1 S1 d e1 w1 r1 q1 => ?_
  exact kd.nx μ1 H1 S1 _ _ e1 ⟨w1.ext, w1.rel, w1.re.set r1, ha.set hie w1.p⟩ q1
end
theorem RE.cut {K : PySem.W.Frag} {μ : Mu} {H : Hp} {ρ : Env} {σ : L2.St} (h : RE K μ H ρ σ) {i : Nat} {o : Option V} : RE K μ H (ρ.set i none) (σ.set i o) := by
  refine ⟨by simp [h.len], fun j d z => ?_⟩
  by_cases hj : i = j
  · subst hj
    by_cases hl : i < ρ.length
    · rw [List.getElem?_set_self hl] at z; cases z
    · rw [List.getElem?_eq_none (by simpa using hl)] at z; cases z
  · rw [List.getElem?_set_ne hj] at z ⊢
    exact h.at_ j d z
section
variable {G : Gl} {C : Calls} {ie cc : Nat} {X : Cx} {e : Expr} {m : Tm} {pos p np : Pos} {x n : Str} {y : Str} {b₀ : Stmt} {suite : List Stmt} {hd : Cms} {cv : Value}
/-- the surroundings of an except suite -/
def hxSx (G : Gl) (K : PySem.W.Frag) (ie : Nat) (a : Addr) (μ : Mu) (H : Hp) : Sx G K WN := ⟨μ, H, fun _ _ => False, fun _ _ σ => σ[ie]? = some (some (.ref a)), fun _ h => h, fun _ _ _ _ _ _ h => h.elim⟩
theorem hxSx_ok {K : PySem.W.Frag} {a : Addr} {μ : Mu} {H : Hp} : HX ie a (hxSx G K ie a μ H) := ⟨fun h => h, fun hj h => by
  show (List.set _ _ _)[ie]? = _
  rw [List.getElem?_set_ne hj]; exact h⟩
theorem cs_tryC (hC : MonoC C) {i : Nat} {pos' pos2 pos3 : Pos} (hs : X.stack = X.env :: X.outer) (hf : X.env.frame = some X.env.locals) (hN : X.N.Nodup) (hi : X.N[i]? = some y) (hy : Loc X.env.scope y) (hfy : X.fn y = true ∨ X.env.scope.names.lookup y = some .local)
    (hie : X.N[ie]? = some n) (hln : X.env.kindOf n = some .local) (hcn : Names X x cv)
    (hsw : swapsWith e (some (.Name y pos')) pos.line X.env = pure false)
    (hex : ∀ k C0, G.N.kex k = some C0 → PySem.W.exmOne X.K (.ref C0) cv = some (G.T.sub k cc))
    (he : ∀ (pn : List (Addr × Obj)) (xe : Value → Shared → Prop), CE G C none (X.tr pn xe) e m)
    (hh : ∀ (k : Nat) (C0 a : Addr) (oe : Obj) (pn : List (Addr × Obj)), G.N.kex k = some C0 → Zc (.ref C0) none oe → (∃ vs, oe.data = .fields vs) → HSs G C k ie a (X.suite a ((a, oe) :: pn)) (b₀ :: suite) hd) :
    CS G C none X (.Try [.Assign [.Name y pos'] e pos] [.ExceptHandler (some (.Name x np)) (some n) (b₀ :: suite) pos2] [] [] pos3) (.tryC (.asg i m) cc ie hd) := fun W tk xo ha => by
  have hb : ∀ (W' : WX) (pn : List (Addr × Obj)) (xe : Value → Shared → Prop), Takes (X.tr pn xe) W' → PassesOwn (model X.prog X.w) X.A X.env xe → PSs (X.tr pn xe) [.Assign [.Name y pos'] e pos] (fun D σ H => ∃ z : Sx G X.K W', LE z (mE G C none m) σ H fun v H' => D.nx (σ.set i (some v)) H') := fun W' pn xe tk' _ => by
    have h1 : PE (X.tr pn xe) e (fun σ H Q => ∃ z : Sx G X.K W', LE z (mE G C none m) σ H Q) := ⟨fun pins s σ H Q I ⟨z, q⟩ => (he pn xe W' tk' z).run pins s σ H Q I q⟩
    exact (pss_cons (ps_set (X := X.tr pn xe) hN hi hy h1 hsw hfy) pss_nil).imp fun σ H D q => q
  have hsu : ∀ (a : Addr) (oe : Obj) (cls : Value) (d : Option Addr) (pn : List (Addr × Obj)), Zc cls d oe → (∃ vs, oe.data = .fields vs) → PSs (X.suite a ((a, oe) :: pn)) (b₀ :: suite)
      (fun D σ H => ∃ (k : Nat) (C0 : Addr) (μ : Mu), cls = .ref C0 ∧ d = none ∧ G.N.kex k = some C0 ∧ LS (hxSx G X.K ie a μ H) (mCs G C (some k) hd) D σ H) := fun a oe cls d pn hz hfl => by
    refine ⟨fun pins s σ H D I ⟨k, C0, μ, e1, e2, hk, q⟩ => ?_⟩
    subst e1 e2
    exact (hh k C0 a oe pn hk hz hfl (hxSx G X.K ie a μ H) hxSx_ok).run pins s σ H D I q
  refine ⟨fun pins s σ H D I ⟨μ, S, ρ, kt, wd, q, kd⟩ => (ps_try_as hs hf hN hie hln hcn tk hb hsu).run pins s σ H D I ?_⟩
  have hlt : ie < σ.length := by rw [I.len]; exact (List.getElem?_eq_some_iff.mp hie).1
  refine ⟨⟨μ, H, fun k S1 => if G.T.sub k cc = true then wpCs G.T C (some k) hd (ρ.set ie none) S1 (hdK ie kt) (fun _ _ => False) else xo.EX k S1, fun μ' H' σ' => RE X.K μ' H' ρ σ', fun e' r => r.ext e', ?_⟩, ?_⟩
  · intro k S1 μ' H' σ' C0 hE ext rel re hk
    refine ⟨_, hex k C0 hk, fun hb1 a na => ?_, fun hb0 => ?_⟩
    · rw [if_pos hb1] at hE
      refine ⟨k, C0, μ', rfl, rfl, hk, μ', S1, ρ.set ie none, hdK ie kt, ⟨Ext.refl _ _, rel, re.cut, ?_⟩, hE, ?_⟩
      · show (σ'.set ie (some (.ref a)))[ie]? = _
        refine List.getElem?_set_self ?_
        rw [← re.len, wd.re.len]
        exact hlt
      · have tr : ∀ {μ2 : Mu} {H2 : Hp} {S2 : Sto} {σ2 : L2.St} {ρ2 : Env}, Ext μ' H' μ2 H2 → Wd (hxSx G X.K ie a μ' H') σ2 H2 μ2 S2 ρ2 → Wd xo (σ2.set ie none) H2 μ2 S2 (ρ2.set ie none) := fun e2 w2 => ⟨(wd.ext.trans ext).trans e2, w2.rel, w2.re.cut, ha _ _ _⟩
        exact ⟨fun μ2 H2 S2 σ2 ρ2 e2 w2 n2 => kd.nx μ2 H2 S2 _ _ (ext.trans e2) (tr e2 w2) n2, fun μ2 H2 S2 v d e2 r2 rd n2 => kd.rt μ2 H2 S2 v d (ext.trans e2) r2 rd n2,
          fun μ2 H2 S2 σ2 ρ2 e2 w2 n2 => kd.bk μ2 H2 S2 _ _ (ext.trans e2) (tr e2 w2) n2, fun μ2 H2 S2 σ2 ρ2 e2 w2 n2 => kd.ct μ2 H2 S2 _ _ (ext.trans e2) (tr e2 w2) n2⟩
    · rw [if_neg (by rw [hb0]; exact Bool.false_ne_true)] at hE
      exact xo.ok k S1 μ' H' σ' C0 hE (wd.ext.trans ext) rel (ha _ _ _) hk
  · refine bindW (monoE hC m) ⟨Ext.refl _ _, wd.rel, wd.re, wd.re⟩ q fun v H1 μ1 S1 d e1 w1 r1 q1 => ?_
    exact kd.nx μ1 H1 S1 _ _ e1 ⟨wd.ext.trans e1, w1.rel, w1.re.set r1, ha _ _ _⟩ q1
end
/-! ### what the text's top says of its exception classes -/
/-- a class that is raised -/
structure ExK (G : Gl) (K : PySem.W.Frag) (mg : Str → Option Value) (c : Nat) (x : Str) : Prop where
  ex : ∃ C bm B newId initId, G.N.kex c = some C ∧ mg x = some (.ref C) ∧ ExcBaseFacts B newId initId bm ∧ PySem.W.excIn K C bm newId = true ∧ PySem.W.keepIn K (.ref C) = true ∧ PySem.W.subIn K (.ref C) (.type "BaseException") = some true ∧ PySem.W.typeIn K (.ref C) = some (.type "type")
theorem cs_raise {G : Gl} {X : Cx} {hx : Option Nat} {C : Calls} {c : Nat} {x msg : Str} {j : Nat} {p pos p2 p3 : Pos} (hc : X.calm = true) (h : ExK G X.K X.mg c x) (hg : L2.Gl X x) (hdb : (x == ("__debug__" : Str)) = false) :
    CS G C hx X (.Raise (some (.Call (.Name x p) [.Constant (.str msg) j p2] [] pos)) none p3) (.rais c) := fun W tk z ha => by
  obtain ⟨Ca, bm, B, newId, initId, h1, h2, h3, h4, h5, h6, h7⟩ := h.ex
  refine (ps_raise hc tk (pmk_own h3 h4 h2 h5 (raises_own h6 h7) hg hdb)).imp fun σ H D ⟨μ, S, ρ, k, wd, q, kd⟩ => ?_
  exact z.ok c S μ H σ Ca q wd.ext wd.rel wd.p h1
theorem kit_own {K : PySem.W.Frag} {C1 C2 : Addr} {b : Bool} (h1 : PySem.W.isClsIn K C2 = true) (h2 : PySem.W.typeIn K (.ref C2) = some (.type "type")) (h3 : PySem.W.subIn K (.ref C1) (.ref C2) = some b) (h4 : PySem.W.subIn K (.ref C1) (.ref C1) = some true) : PySem.W.kitOne K (.ref C1) (.ref C2) = some b := by
  by_cases e : C1 = C2
  · subst e
    rw [h4] at h3; cases h3
    unfold PySem.W.kitOne
    rw [if_pos (beq_self_eq_true _)]
  · have e' : ((Value.ref C1 : Value) == .ref C2) = false := beq_eq_false_iff_ne.mpr fun z => e (by cases z; rfl)
    unfold PySem.W.kitOne PySem.W.kitCls
    rw [e', if_neg Bool.false_ne_true]
    show (if ((PySem.W.clsIn K C2).isSome && PySem.W.typeIn K (.ref C2) == some (.type "type")) = true then PySem.W.subIn K (.ref C1) (.ref C2) else none) = some b
    rw [show (PySem.W.clsIn K C2).isSome = true from h1, h2, if_pos (by rfl), h3]
theorem kit_val {K : PySem.W.Frag} {C1 : Addr} (h3 : PySem.W.subIn K (.ref C1) (.type "ValueError") = some true) : PySem.W.kitOne K (.ref C1) (.type "ValueError") = some true := by
  unfold PySem.W.kitOne PySem.W.kitCls
  rw [show ((Value.ref C1 : Value) == .type "ValueError") = false from rfl, if_neg Bool.false_ne_true]
  show (if PySem.W.kitMeta "ValueError" = true then PySem.W.subIn K (.ref C1) (.type "ValueError") else none) = some true
  rw [show PySem.W.kitMeta "ValueError" = true by decide +kernel, if_pos rfl, h3]
end Mp
namespace Mp
open PySem L2
end Mp
/-! Instances of own classes: made (with an own __init__, with object's), their methods called; split, partition. -/
namespace Mp
open PySem PySem.Spec PyProof.Rows L2
/-- names by number -/
def nmOf (L : List Str) (i : Nat) : Str := match L[i]? with
  | some s => s
  | none => ⟨#[i]⟩
theorem nm_inj (L : List Str) (nd : L.Nodup) (h1 : ∀ s ∈ L, s.cps.size ≠ 1) : ∀ f g, nmOf L f = nmOf L g → f = g := by
  intro f g e
  unfold nmOf at e
  cases ef : L[f]? with
  | none =>
    cases eg : L[g]? with
    | none =>
      rw [ef, eg] at e
      simp only [Str.mk.injEq] at e
      have := congrArg (fun a : Array Nat => a.toList) e
      simpa using this
    | some t =>
      rw [ef, eg] at e
      simp only at e
      exact absurd (by rw [← e]; rfl) (h1 t (List.mem_of_getElem? eg))
  | some s =>
    cases eg : L[g]? with
    | none =>
      rw [ef, eg] at e
      simp only at e
      exact absurd (by rw [e]; rfl) (h1 s (List.mem_of_getElem? ef))
    | some t =>
      rw [ef, eg] at e
      simp only at e
      subst e
      obtain ⟨a1, a2⟩ := List.getElem?_eq_some_iff.mp ef
      obtain ⟨b1, b2⟩ := List.getElem?_eq_some_iff.mp eg
      have nd2 := List.nodup_iff_pairwise_ne.mp nd
      rw [List.pairwise_iff_getElem] at nd2
      rcases Nat.lt_trichotomy f g with c | c | c
      · exact absurd (a2.trans b2.symm) (nd2 f g a1 b1 c)
      · exact c
      · exact absurd (b2.trans a2.symm) (nd2 g f b1 a1 c)
/-- a def that is no name of the module: a method -/
structure CalM (P : Program) (w : World) (K : PySem.W.Frag) (mg : Str → Option Value) (base : Heap) (G : Gl) (n : Nat) (f : Nat) (a : Addr) (fd : FuncData) (ps : List Str) : Prop where
  ok : FnOk P w K mg base (L2.CX P w) (2 * n) a fd ps (spOf G K n f)
  bd : Binds K fd ps []
section
variable {G : Gl} {X : Cx} {hx : Option Nat}
variable {e : Expr} {es : List Expr} {m : Tm} {ms : Tms} {pos p apos : Pos} {x : Str} {n : Nat}
theorem passF {W : WX} (tk : Takes X W) : Passes (L2.CX X.prog X.w) X fun _ _ _ => False := fun pins σ H s e s' I c => tk e s' (XE.of_call I (fun _ _ _ h => h.elim) c)
/-- C(e, ..) with an own __init__ -/
theorem ce_make {c f : Nat} {Ca fa : Addr} {fd : FuncData} {ps : List Str} (F : FnOk X.prog X.w X.K X.mg X.base (L2.CX X.prog X.w) (2 * n) fa fd ps (spOf G X.K n f)) (bd : Binds X.K fd ps []) (M : L2.Mk X.K Ca fa)
    (hk : G.N.kap c = some Ca) (hi : G.T.ini c = some f) (hr : Room (2 * n + 1) X.A) (hg : L2.Gl X x) (hm : X.mg x = some (.ref Ca)) (h : CEs G (wpCall G.T G.F n) hx X (e :: es) ms)
    (hdb : (x == ("__debug__" : Str)) = false := by decide) (he : starEach (e :: es) X.env = (false, eval e X.env) :: starEach es X.env := by rfl) (hpl : (backTo pos (starEach es X.env)).any (·.1) = false := by rfl) :
    CE G (wpCall G.T G.F n) hx X (.Call (.Name x p) (e :: es) [] pos) (.make c ms) := fun W tk z => by
  have hC := wpCall_mono G.T G.F n
  refine (pe_make (dvs := []) (ds := []) M F hr hg hm bd .nil (passF tk) (h.pa hC tk z) hdb he hpl).imp fun σ H Q ⟨μ, S, ρ, wd, q⟩ => ?_
  simp only [wpE, hi] at q
  refine bindA (monoEs hC ms) wd q fun vs H1 μ1 S1 ds e1 w1 r1 q1 a dx h1 h2 h3 => ?_
  have hne : a ≠ dx := fun e => h3 e.symm
  have R1 := w1.rel
  have R2 : Rel G.N X.K μ1 S1 (upd H1 dx (.own a)) := R1.other (R1.fresh h2) (.inl h2)
  have x2 : Ext μ1 H1 μ1 (upd H1 dx (.own a)) := Ext.upd (.inl h2)
  have n1 : (upd H1 dx (.own a)) a = none := by rw [upd_ne hne]; exact h1
  have R3 : Rel G.N X.K (muAdd μ1 S1.length a) (S1 ++ [.ins c []]) (upd (upd H1 dx (.own a)) a (.ins Ca dx [])) := R2.push n1 ⟨Ca, dx, [], hk, upd_same, .nil⟩
  have x3 := R2.pushExt (o := .ins Ca dx []) n1
  refine ⟨_, _, _, R3, ?_, hC _ _ _ _ _ _ _ (fun d S' q2 => ?_) (fun _ _ q2 => q2.elim) q1⟩
  · rw [List.append_nil]
    exact .cons (.ref muAdd_self) ((r1.ext x2).ext x3)
  · obtain ⟨rfl, q3⟩ := q2
    intro μ' H' v ex R' rd
    exact ⟨rd.non_inv, q3 μ' H' (.ref a) (((e1.trans x2).trans x3).trans ex) R' (.ref (ex.mu _ _ muAdd_self))⟩
/-- what a class must have to be made by C() with no __init__ but object's -/
structure Mk0 (K : PySem.W.Frag) (C : Addr) : Prop where
  makes : PySem.W.makesIn K C = true
  init : PySem.W.findIn K (.ref C) "__init__" = some (some (.builtin "object.__init__"))
  kp : PySem.W.keepIn K (.ref C) = true
theorem run_make0 {C : Addr} {pins : List (Addr × Obj)} {σ : L2.St} {H : Hp} {s : Shared} {Q : VK} (M : Mk0 X.K C) (I : Inv X pins σ H s) (h : ∀ a dx, H a = none → H dx = none → dx ≠ a → Q (.ref a) (upd (upd H dx (.own a)) a (.ins C dx []))) :
    wpAny (model X.prog X.w) X.A (PySem.call (.ref C) []) (EP X pins σ Q) X.xe s := by
  have hq := h (s.heap.objs.size + 1) s.heap.objs.size (I.hok.fresh (Nat.le_succ _)) (I.hok.fresh (Nat.le_refl _)) (Nat.ne_of_lt (Nat.lt_succ_self _))
  have I2 := Inv.made (C := C) I
  have kIn := I.kIn
  obtain ⟨hh, g, d, t, os⟩ := s
  refine wpAny_call (make_map0 kIn M.makes M.init (fun self => PySem.W.Looks.of_pure (PySem.W.oi_bind self)) ?_)
  have Y := PySem.W.makes_of (M := model X.prog X.w) kIn M.makes
  have e2 : ((hh.push PySem.W.emptyDict).push (PySem.W.instObj C hh.objs.size)).get? (hh.objs.size + 1) = some (PySem.W.instObj C hh.objs.size) := by
    have := Heap.get?_push_size (hh.push PySem.W.emptyDict) (o := PySem.W.instObj C hh.objs.size) rfl
    rwa [Heap.size_push] at this
  have t1 : PySem.W.Looks (model X.prog X.w) ((hh.push PySem.W.emptyDict).push (PySem.W.instObj C hh.objs.size)) (typeOf (.ref (hh.objs.size + 1))) (.ref C) := (PySem.W.Looks.ld e2).andThen .now
  have t2 : PySem.W.Looks (model X.prog X.w) ((hh.push PySem.W.emptyDict).push (PySem.W.instObj C hh.objs.size)) (isInstance (.ref (hh.objs.size + 1)) (.type "object")) true := t1.andThen (Y.top.keeps fun b o e => Heap.get?_push_of_some _ (Heap.get?_push_of_some _ e))
  refine codeAny_call_builtin PySem.W.oi_plain PySem.W.entry_oi (@PySem.W.check_slot (model X.prog X.w) _ _ _ "object.__init__" "object" "__init__" (.ref (hh.objs.size + 1)) [] [] _ PySem.W.oi_kind PySem.W.oi_split t2 (PySem.W.oi_args (.ref (hh.objs.size + 1))) ?_)
  rw [PySem.W.oi_run]
  refine wpAny_pure (And.intro rfl ?_)
  exact ⟨.ref (hh.objs.size + 1), _, I2, rfl, hq⟩
theorem ce_make0 {C : Calls} {c : Nat} {Ca : Addr} (M : Mk0 X.K Ca) (hk : G.N.kap c = some Ca) (hi : G.T.ini c = none) (hg : L2.Gl X x) (hm : X.mg x = some (.ref Ca)) (hdb : (x == ("__debug__" : Str)) = false := by decide) :
    CE G C hx X (.Call (.Name x p) [] [] pos) (.make c .nil) := fun W tk z => by
  refine ⟨fun pins s σ H Q I h => ?_⟩
  refine wpAny_Call_Name_kw (ld_glob I hg hm ?_ hdb)
  refine PySem.W.callWith_K0 I.kIn M.kp (run_make0 M I fun a dx h1 h2 h3 => ?_)
  obtain ⟨μ, S, ρ, wd, q⟩ := h
  simp only [wpE, wpEs, hi] at q
  have hne : a ≠ dx := fun e => h3 e.symm
  have R1 := wd.rel
  have R2 : Rel G.N X.K μ S (upd H dx (.own a)) := R1.other (R1.fresh h2) (.inl h2)
  have x2 : Ext μ H μ (upd H dx (.own a)) := Ext.upd (.inl h2)
  have n1 : (upd H dx (.own a)) a = none := by rw [upd_ne hne]; exact h1
  have R3 : Rel G.N X.K (muAdd μ S.length a) (S ++ [.ins c []]) (upd (upd H dx (.own a)) a (.ins Ca dx [])) := R2.push n1 ⟨Ca, dx, [], hk, upd_same, .nil⟩
  have x3 := R2.pushExt (o := .ins Ca dx []) n1
  exact q.2 _ _ _ (x2.trans x3) R3 (.ref muAdd_self)
/-- a method of whatever class the receiver is of: the promise of each -/
structure MetOk (G : Gl) (X : Cx) (n m : Nat) : Prop where
  ok : ∀ c C g, G.N.kap c = some C → G.T.met c m = some g → ∃ (fa : Addr) (fd : FuncData) (ps : List Str), Cls X.K C ∧ Meth X.K C (G.N.nm m) fa ∧ FnOk X.prog X.w X.K X.mg X.base (L2.CX X.prog X.w) (2 * n) fa fd ps (spOf G X.K n g) ∧ Binds X.K fd ps []
/-- o.m() -/
theorem ce_meth0 {o : Expr} {mo : Tm} {mi : Nat} {name : Str} {pl : Sem Bool} (T : MetOk G X n mi) (hnm : G.N.nm mi = name) (inj : ∀ f g, G.N.nm f = G.N.nm g → f = g) (hr : Room (2 * n + 1) X.A) (ho : CE G (wpCall G.T G.F n) hx X o mo)
    (ht : eval (.Call (.Attribute o name apos) [] [] pos) X.env = (do
      let ov ← eval o X.env
      standAt apos.atName
      let (f, first) ← holding [ov] (getMethod ov name pl)
      callWith pos f first (backTo pos (starEach [] X.env)) (backToKw pos (keywordEach [] X.env))) := by rfl) :
    CE G (wpCall G.T G.F n) hx X (.Call (.Attribute o name apos) [] [] pos) (.meth mi mo .nil) := fun W tk z => by
  have hC := wpCall_mono G.T G.F n
  subst hnm
  refine ⟨fun pins s σ H Q I h => ?_⟩
  obtain ⟨μ, S, ρ, wd, q⟩ := h
  simp only [wpE] at q
  refine PySem.W.methodCall_KW (pl := pl) (thn ((ho W tk z).run pins s σ H (fun x H1 => ∃ (a C dx : Addr) (fs : List (Str × V)) (fa : Addr) (fd : FuncData) (ps : List Str) (g : Nat), x = .ref a ∧ H1 a = some (.ins C dx fs) ∧ Cls X.K C ∧ Meth X.K C (G.N.nm mi) fa ∧
    FnOk X.prog X.w X.K X.mg X.base (L2.CX X.prog X.w) (2 * n) fa fd ps (spOf G X.K n g) ∧ Binds X.K fd ps [] ∧ fs.lookup (G.N.nm mi) = none ∧ spOf G X.K n g [.ref a] H1 Q fun _ _ _ => False) I
      (bindW (monoE hC mo) wd q fun v H1 μ1 S1 d e1 w1 r1 q1 => ?_)) fun u s1 ⟨x, H1, I1, rx, a, C, dx, fs, fa, fd, ps, g, ex, ea, c, k, F, bd, l, q⟩ => ?_) ht
  · split at q1
    · rename_i r
      split at q1
      · rename_i c fs es
        split at q1
        · rename_i g hg
          obtain ⟨l, q2⟩ := q1
          simp only [wpEs] at q2
          obtain ⟨a, rfl, g0, Cc, dx, fv, g1, g2, g3⟩ := w1.rel.ref r1 es
          obtain ⟨fa, fd, ps, k1, k2, k3, k4⟩ := T.ok c Cc g g1 hg
          have lk := Mp.RF.look inj g3 mi
          rw [l] at lk
          refine ⟨a, Cc, dx, fv, fa, fd, ps, g, rfl, g2, k1, k2, k3, k4, ?_, μ1, S1, _, w1.rel, .cons r1 .nil, hC _ _ _ _ _ _ _ (fun d S' q3 => LQ.later q3 e1) (fun _ _ q3 => q3.elim) q2⟩
          cases ev : fv.lookup (G.N.nm mi) with
          | none => rfl
          | some v => rw [ev] at lk; exact (show False from lk).elim
        · exact q1.elim
      · exact q1.elim
    · exact q1.elim
  · subst ex
    obtain rfl : u = Value.ref a := rx
    refine getmeth_ok I1 ea c k l ?_
    exact PySem.W.callWith_K0 (first := [.ref a]) I1.kIn k.kp (run_fn (us := [.ref a]) (vs := [.ref a]) (dvs := []) (ds := []) F (hr.mono (Nat.le_succ _)) bd .nil (passF tk) I1 (.cons rfl .nil) q)
end
section
variable {G : Gl} {K : PySem.W.Frag}
theorem ty_txt {o : Op} (h : ∀ S d, tyOk o S d = (match d with | .str _ => true | _ => false)) : TYM G K o "str" := ty_str fun S d t => by
  rw [h] at t
  cases d <;> first | exact ⟨_, rfl⟩ | cases t
theorem ty_split : TYM G K .split "str" := ty_txt fun _ _ => rfl
theorem ty_partition : TYM G K .partition "str" := ty_txt fun _ _ => rfl
theorem ty_upper : TYM G K .upper "str" := ty_txt fun _ _ => rfl
def rSplitS : V → List V → Hp → VK → Prop := fun x xs H Q => ∃ a b, x = .str a ∧ xs = [.str b] ∧ (b.length == 0) = false ∧ a.length + 2 ≤ sizeLine ∧ rNewStrs (Txt.split a b) H Q
theorem spl_sub (b : List Nat) : ∀ (a : List Nat) (k : Nat) (acc : List Nat), ∀ p ∈ TL.spl b k acc a, ∀ c ∈ p, c ∈ acc ∨ c ∈ a
  | [], k, acc, p, hp, c, hc => by
    rw [TL.spl_nil] at hp
    rw [List.mem_singleton] at hp
    subst hp; exact .inl hc
  | x :: r, 0, acc, p, hp, c, hc => by
    unfold TL.spl at hp
    split at hp
    · rcases List.mem_cons.mp hp with rfl | hp
      · exact .inl hc
      · rcases spl_sub b r _ _ p hp c hc with h | h
        · exact nomatch h
        · exact .inr (List.mem_cons_of_mem _ h)
    · rcases spl_sub b r _ _ p hp c hc with h | h
      · rcases List.mem_append.mp h with h | h
        · exact .inl h
        · rw [List.mem_singleton.mp h]; exact .inr (by simp)
      · exact .inr (List.mem_cons_of_mem _ h)
  | x :: r, k + 1, acc, p, hp, c, hc => by
    unfold TL.spl at hp
    rcases spl_sub b r _ _ p hp c hc with h | h
    · exact .inl h
    · exact .inr (List.mem_cons_of_mem _ h)
theorem par_sub (b : List Nat) : ∀ (a acc x y : List Nat), TL.par b acc a = some (x, y) → (∀ c ∈ x, c ∈ acc ∨ c ∈ a) ∧ ∀ c ∈ y, c ∈ a
  | [], acc, x, y, h => by unfold TL.par at h; cases h
  | z :: r, acc, x, y, h => by
    unfold TL.par at h
    split at h
    · cases h
      exact ⟨fun c hc => .inl hc, fun c hc => List.mem_of_mem_drop hc⟩
    · obtain ⟨i1, i2⟩ := par_sub b r _ _ _ h
      refine ⟨fun c hc => ?_, fun c hc => List.mem_cons_of_mem _ (i2 c hc)⟩
      rcases i1 c hc with h | h
      · rcases List.mem_append.mp h with h | h
        · exact .inl h
        · rw [List.mem_singleton.mp h]; exact .inr (by simp)
      · exact .inr (List.mem_cons_of_mem _ h)
theorem rds_strs {μ : Mu} {H : Hp} : ∀ {ss : List (List Nat)}, (∀ s ∈ ss, Cok s) → RDs K μ H ((ss.map SX.S).map V.str) (ss.map .str)
  | [], _ => .nil
  | s :: ss, h => .cons (RD.str' (h s (by simp))) (rds_strs fun t ht => h t (List.mem_cons_of_mem _ ht))
theorem small_all {b : List Nat} (h : small256 b = true) : b.all (· < 256) = true := h
theorem vm_split : VOM G K oSplit rSplitS := fun μ0 H0 μ S H x dx vs ds Q d S' e R rx rd h q => by
  unfold oSplit at h
  split at h
  · rename_i S2 a b ez
    cases ez
    split at h
    · rename_i hl
      obtain ⟨h1, h2, h3⟩ := hl
      cases h
      obtain ⟨v, rfl, rv⟩ := rd.one
      refine ⟨SX.S a, SX.S b, rx.str_inv, by rw [rv.str_inv], ?_, by rw [SX.S_len]; exact h3, ?_⟩
      · rw [SX.S_len]
        cases b with
        | nil => exact absurd rfl h1
        | cons c b => rfl
      · rw [SX.split_S h1 (small_all h2)]
        intro p hp
        exact new_lst R e hp (rds_strs fun s hs c hc => by
          rcases spl_sub b a 0 [] s hs c hc with z | z
          · exact nomatch z
          · exact rx.cok c z) q
    · cases h
  · cases h
def rPartS : V → List V → Hp → VK → Prop := fun x xs H Q => ∃ a b, x = .str a ∧ xs = [.str b] ∧ (b.length == 0) = false ∧ a.length ≤ sizeLine ∧ ∀ p, H p = none → Q (.ref p) (upd H p (.tup [.str (Txt.partition a b).1, .str (Txt.partition a b).2.1, .str (Txt.partition a b).2.2]))
theorem new_tupP {μ μ0 : Mu} {S : Sto} {H H0 : Hp} {Q : VK} {ws : List V} {es : List D} (R : Rel G.N K μ S H) (e : Ext μ0 H0 μ H) {p : Addr} (hp : H p = none) (rd : RDs K μ H ws es) (q : LQ G.N K μ0 H0 Q (.tup es) S) : Q (.ref p) (upd H p (.tup ws)) := by
  have ex : Ext μ H μ (upd H p (.tup ws)) := Ext.upd (.inl hp)
  exact q _ _ _ (e.trans ex) (R.other (R.fresh hp) (.inl hp)) (.tup upd_same (rd.ext ex))
theorem vm_partition : VOM G K oPartition rPartS := fun μ0 H0 μ S H x dx vs ds Q d S' e R rx rd h q => by
  unfold oPartition at h
  split at h
  · rename_i S2 a b ez
    cases ez
    split at h
    · rename_i hl
      obtain ⟨h1, h2, h3⟩ := hl
      obtain ⟨v, rfl, rv⟩ := rd.one
      refine ⟨SX.S a, SX.S b, rx.str_inv, by rw [rv.str_inv], ?_, by rw [SX.S_len]; exact h3, ?_⟩
      · rw [SX.S_len]
        cases b with
        | nil => exact absurd rfl h1
        | cons c b => rfl
      · intro p hp
        split at h
        · rename_i y z ep
          cases h
          rw [SX.partition_some h1 ep]
          obtain ⟨i1, i2⟩ := par_sub b a [] y z ep
          exact new_tupP R e hp (.cons (RD.str' fun c hc => by
            rcases i1 c hc with w | w
            · exact nomatch w
            · exact rx.cok c w) (.cons (RD.str' rv.cok) (.cons (RD.str' fun c hc => rx.cok c (i2 c hc)) .nil))) q
        · rename_i ep
          cases h
          rw [SX.partition_none h1 ep]
          exact new_tupP R e hp (.cons (RD.str' rx.cok) (.cons (RD.str' fun c hc => nomatch hc) (.cons (RD.str' fun c hc => nomatch hc) .nil))) q
    · cases h
  · cases h
end
end Mp
/-! A list comprehension whose item may raise: the exception leaves the block and is in the def's air. -/
namespace Mp
open PySem PySem.Spec PyProof.Rows L2
section
variable {M : Model} {A : Around} {E : Value → Shared → Prop} {s : Shared} {env : PySem.Env}
/-- behind a comprehension's block; fr: the frame of the def that holds it -/
def lcPost (M : Model) (A : Around) (E : Value → Shared → Prop) (fr : Option Addr) (use : Option (Value → Sem Unit)) (Q : Value → Shared → Prop) (acc : Value) (C : Addr) : Result → Shared → Prop
  | .ok f, s1 => compPost M A E use Q acc C (.ok f) s1
  | .error x, s1 => ∃ m, s1.heap.Ns C m ∧ ∀ h1, Heap.SameBut C s1.heap h1 → ∀ c1 : PySem.Env, c1.frame = fr → wpAny M A (passOn "comprehension.variables-let-go" x c1 : Sem Value) (fun _ _ => False) E { s1 with heap := h1 }
theorem lc_free {e : Expr} {scope : Scope} {pos : Pos} {newAcc first : Sem Value} {g : Comprehension} {gs : List Comprehension} {cl : List (Str × Addr)} {use : Option (Value → Sem Unit)} {Q : Value → Shared → Prop}
    (hcl : clausesOf e = g :: gs) (hs : ∀ x, foldedSetIterable g.iter env x = pure x) (hclos : closureFor scope env = pure cl) (hkind : scope.kind = .function) (hnames : ∀ y ∈ scope.names, y.2 = .local → scope.names.lookup y.1 = some .local)
    (h : wpAny M A first (fun x s1 => wpAny M A (pyIter x) (fun it s2 => wpAny M A newAcc (fun acc s3 => wpAny M A (newFunctionEnv scope env.globals cl [] env.qual none .none (some env)) (fun ce s4 =>
      codeAny M A (.compStart e 0 it acc { ce with scope := relabel scope env }) (lcPost M A E ce.frame use Q acc ce.locals) s4) E s3) E s2) E s1) E s) :
    wpAny M A (comprehension e scope env pos newAcc false first use) Q E s := by
  unfold comprehension
  rw [hclos, hcl]
  refine wpAny_bind (wpAny_mono h (fun x s1 q1 => ?_) fun _ _ z => z)
  refine wpAny_bind (wpAny_standAt (wpAny_bind (wpAny_of_eq (hs x) ?_)))
  refine wpAny_bind (wpAny_holding (wpAny_mono q1 (fun it s2 q2 => ?_) fun _ _ z => z))
  refine wpAny_standIf (wpAny_bind (wpAny_mono q2 (fun acc s3 q3 => ?_) fun _ _ z => z))
  refine wpAny_bind (wpAny_pure (wpAny_bind (wpAny_mono q3 (fun ce s4 q4 => ?_) fun _ _ z => z)))
  dsimp only
  have lk : ∀ y ∈ scope.names, y.2 = .local → PySem.Env.kindOf { ce with scope := relabel scope env } y.1 = some .local := fun y hy hl => lookup_relabel_local (hnames y hy hl)
  have lk1 : ∀ y ∈ (scope.names.filter fun z => (z.2 == .local || z.2 == .cell) && z.1 != (".0" : Str)).reverse, y.2 = .local → PySem.Env.kindOf { ce with scope := relabel scope env } y.1 = some .local := fun y hy hl =>
    lk y (List.mem_filter.mp (List.mem_reverse.mp hy)).1 hl
  refine wpAny_holding (wpAny_bind (wpAny_attempt (wpAny_holding (wpAny_run (codeAny_mono q4 fun r s5 q5 => ?_)))))
  cases r with
  | ok f =>
    cases use with
    | none =>
      obtain ⟨m, hn, q6⟩ := q5
      refine wpAny_bind (wpAny_holding (wpAny_comp_letGo (cenv := { ce with scope := relabel scope env }) hkind _ s5 m lk1 hn fun h1 m1 _ z => ?_))
      exact wpAny_pure (q6 h1 z)
    | some u =>
      refine wpAny_bind (wpAny_rule (wpAny_bind (wpAny_holding (wpAny_mono q5 (fun _ s6 q6 => ?_) fun _ _ z => z))))
      obtain ⟨m, hn, q7⟩ := q6
      refine wpAny_bind (wpAny_comp_letGo (cenv := { ce with scope := relabel scope env }) hkind _ s6 m (fun y hy hl => ?_) hn fun h1 m1 _ z => wpAny_pure (q7 h1 z))
      rcases List.mem_append.mp hy with k | k
      · exact lk1 y (List.mem_of_mem_drop k) hl
      · exact lk1 y (List.mem_of_mem_take k) hl
  | error x =>
    obtain ⟨m, hn, q6⟩ := q5
    refine wpAny_bind (wpAny_holding (wpAny_comp_letGo (cenv := { ce with scope := relabel scope env }) hkind _ s5 m lk1 hn fun h1 m1 _ z => ?_))
    exact wpAny_mono (q6 h1 z _ rfl) (fun _ _ k => k.elim) fun _ _ k => k
end
/-! ### exceptions that a frame notes, whoever noted them ahead -/
theorem frames_at {B B' h h' : Heap} : ∀ {l : List PySem.Env}, h.FunFrames B l → (∀ L ∈ frs l, B'.get? L = none ∧ h'.get? L = h.get? L) → h'.FunFrames B' l
  | [], _, _ => trivial
  | env :: l, z, k => by
    obtain ⟨z1, ⟨L, o, f, n, e, d⟩, z2⟩ := z
    have kL := k L (List.mem_filterMap.mpr ⟨env, List.mem_cons_self, f⟩)
    refine ⟨z1, ⟨L, o, f, kL.1, by rw [kL.2]; exact e, d⟩, frames_at z2 fun L1 h1 => k L1 ?_⟩
    obtain ⟨e1, m1, q1⟩ := List.mem_filterMap.mp h1
    exact List.mem_filterMap.mpr ⟨e1, List.mem_cons_of_mem _ m1, q1⟩
section
variable {M : Model} {A : Around} {E : Value → Shared → Prop} {s : Shared} {B : Heap} {Z : Obj → Prop} {a L : Addr} {fl : Value} {env : PySem.Env} {outer : List PySem.Env}
theorem look_otherZ {Q : Unit → Shared → Prop} (hZ : HandSPX.Steady Z) (hfr : A.frames = some (env :: outer)) (hf : env.frame = some L) (k1 : B.StaysIn s.heap) (k2 : B.get? a = none) (k3 : s.heap.FunFrames B (env :: outer)) (k4 : HandSPX.TracedZ s.heap B a Z fl) (hne : (fl == rawInt L) = false)
    (hQ : ∀ h1, HandSPX.HeldZ B (env :: outer) a Z L h1 → s.heap.UpToSlots h1 → Q () { s with heap := h1 }) : wpAny M A (noteFrame (.ref a) env) Q E s := by
  obtain ⟨oa, va, T, oT, vT, ea, za, da, a1, nT, Ta, eT, dT, t3⟩ := k4
  unfold noteFrame
  simp only [hf]
  refine wpAny_bind (wpAny_field ea da a1 ?_)
  have tn : (Value.ref T != Value.none) = true := by simp
  rw [if_pos tn]
  refine wpAny_bind (wpAny_field eT dT t3 ?_)
  rw [if_neg (by rw [hne]; exact Bool.false_ne_true)]
  have s3 : 3 < vT.size := (Array.getElem?_eq_some_iff.mp t3).1
  refine wpAny_bind (wpAny_setField eT dT s3 ?_)
  have oth : ∀ b, b ≠ T → (s.heap.update T (Obj.mapFields (·.setIfInBounds 3 Value.none))).get? b = s.heap.get? b := fun b hb => Heap.get?_update_other _ _ fun z => hb z.symm
  have rec0 : ∀ b o, s.heap.get? b = some o → (∀ vs, o.data ≠ .fields vs) → b ≠ T := fun b o hb hn z => by
    subst z
    rw [eT] at hb; cases hb
    exact hn _ dT
  have up : s.heap.UpToSlots (s.heap.update T (Obj.mapFields (·.setIfInBounds 3 Value.none))) := fun b o hb hn => ⟨o.slots, by rw [oth b (rec0 b o hb hn)]; exact hb⟩
  have st : B.StaysIn (s.heap.update T (Obj.mapFields (·.setIfInBounds 3 Value.none))) := fun b o hb => by
    have bT : b ≠ T := fun z => by rw [z, nT] at hb; cases hb
    rw [oth b bT]; exact k1 b o hb
  have aT : a ≠ T := fun z => Ta z.symm
  refine HandSPX.wpAny_entryZ hZ hfr (k3.of_keeps fun b o hb hn => ⟨o, by rw [oth b (rec0 b o hb hn)]; exact hb, rfl⟩) hf (by rw [oth a aT]; exact ea) st k2 da (Array.getElem?_eq_some_iff.mp a1).1 za fun h1 hN => ?_
  obtain ⟨n1, n2, n3, n4⟩ := hN
  exact hQ h1 ⟨n1, k2, n2, n3⟩ (up.trans n4)
/-- whatever air it is in: noted, it is held -/
theorem sky_held {L1 : Addr} {Q : Unit → Shared → Prop} (hZ : HandSPX.Steady Z) (hfr : A.frames = some (env :: outer)) (hf : env.frame = some L) (hne : L1 ≠ L) (x : Sky B (env :: outer) a Z L1 s.heap)
    (hQ : ∀ h1, HandSPX.HeldZ B (env :: outer) a Z L h1 → s.heap.UpToSlots h1 → Q () { s with heap := h1 }) : wpAny M A (noteFrame (.ref a) env) Q E s := by
  rcases x with ⟨k1, k2, k3, oa, va, ea, za, da, a1⟩ | k | k
  · exact HandSPX.look_newZ hZ hfr k3 hf ea k1 k2 da a1 za hQ
  · exact HandSPX.looks_onZ hZ hfr hf k hQ
  · exact look_otherZ hZ hfr hf k.1 k.2.1 k.2.2.1 k.2.2.2 (by simp [rawInt]; exact fun z => hne (Int.ofNat.inj z)) hQ
end
/-! ### the block -/
/-- the block's surroundings, with what is wished of exceptions -/
abbrev bx (X : Cx) (s : Shared) (H : Hp) (scope : Scope) (ce : PySem.Env) (fp : List Addr) (xe : Value → Shared → Prop) : Cx := { X.blk s H scope ce fp with xe := xe }
section
variable {X : Cx} {s : Shared} {H : Hp} {scope : Scope} {ce : PySem.Env} {fp : List Addr} {xe : Value → Shared → Prop} {pins : List (Addr × Obj)} {σ : L2.St} {H' : Hp} {s' : Shared}
theorem toBx (I : Inv (X.blk s H scope ce fp) pins σ H' s') : Inv (bx X s H scope ce fp xe) pins σ H' s' := ⟨⟨I.ok.mod, I.ok.kind, I.ok.glob, I.ok.blt, I.ok.above, I.ok.inj, I.ok.has, I.ok.cab, I.ok.hd, I.ok.frames, I.ok.stk, I.ok.exf, I.ok.bs, I.ok.bsz, I.ok.noex, I.ok.exfs, I.ok.funs, I.ok.frf⟩,
  I.os, I.bare, I.base, I.loc, I.cell, I.free, I.freeC, I.pin, I.hok, I.len⟩
/-- out of the block: the exception is in the def's air -/
theorem bx_out {W : WX} {use : Option (Value → Sem Unit)} {Q : Value → Shared → Prop} {acc u : Value} (hs : X.stack = X.env :: X.outer) (hf : X.env.frame = some X.env.locals) (tk : Takes X W) (I3 : Inv X pins σ H s) (hc : ce.locals = s.heap.objs.size) (hcf : ce.frame = X.env.frame)
    (hfp : ∀ b ∈ fp, FpOk X pins H b) (x : XE (bx X s H scope ce fp xe) (fun cls d _ H1 => W cls d σ H1) u s') :
    notedBy (model X.prog X.w) X.A ce (fun e s1 => lcPost (model X.prog X.w) X.A X.xe X.env.frame use Q acc s.heap.objs.size (.error e) s1) u s' := by
  obtain ⟨a, B, sI, pins', σ', H1, cls, d, rfl, J, nb, up, sky, na, os, ag, w⟩ := x
  have hfr : X.A.frames = some (X.env :: X.outer) := by rw [I3.ok.frames, hs]
  have nC : H1 s.heap.objs.size = none := by
    have z : H1 ce.locals = none := J.free
    rw [hc] at z; exact z
  obtain ⟨m, hn, _⟩ := J.loc
  have hn : sI.heap.Ns ce.locals m := hn
  rw [hc] at hn
  have I5 : Inv X pins σ H1 sI := I3.call' (ch := fp) J.os J.base J.hok J.bare fun b hb => ⟨(hfp b hb).2.2.2.1, (hfp b hb).2.1, (hfp b hb).2.2.2.2.1, (hfp b hb).2.2.2.2.2⟩
  have fC : FpOk X pins H1 s.heap.objs.size := I3.fpOk (Nat.le_refl _) nC
  have sky' : Sky B (X.env :: X.outer) a (Zc cls d) s.heap.objs.size s'.heap := by
    rw [← hs, ← hc]; exact sky
  have e1 : noteFrame (.ref a) ce = noteFrame (.ref a) X.env := by
    unfold noteFrame PySem.frameOf
    rw [hcf]
  show wpAny (model X.prog X.w) X.A (noteFrame (.ref a) ce) _ _ s'
  rw [e1]
  refine sky_held Zc.steady hfr hf (fun z => fC.2.1 z) sky' fun h1 held up1 => ?_
  have up2 := up.trans up1
  refine ⟨m, up2.ns hn, fun h2 sb c1 hc1 => ?_⟩
  obtain ⟨k1, k2, k3, oa, va, T, oT, vT, ea, za, da, a1, nT, Ta, eT, dT, t3⟩ := held
  -- the block's own names stand in the ground
  obtain ⟨oC, es, ep, eC, dC, _⟩ := hn
  have nfr : s.heap.objs.size ∉ frs X.stack := fun hm => by
    rw [hs] at hm
    rcases List.mem_cons.mp (show s.heap.objs.size ∈ X.env.locals :: frs X.outer by simpa [frs, hf] using hm) with z | z
    · exact fC.2.1 z
    · exact fC.2.2.1 z
  have BC : B.get? s.heap.objs.size = some oC := nb _ _ eC nfr
  have aC : a ≠ s.heap.objs.size := fun z => by rw [z, BC] at k2; cases k2
  have TC : T ≠ s.heap.objs.size := fun z => by rw [z, BC] at nT; cases nT
  have hd2 : ∀ {h : Heap} {b : Addr} {o : Obj}, (PySem.W.hideAll h [s.heap.objs.size]).get? b = some o → h.get? b = some o ∧ b ≠ s.heap.objs.size := fun {h b o} e => ⟨PySem.W.of_hideAll _ e, fun z => by
    rw [z, PySem.W.hideAll_none _ (List.mem_singleton.mpr rfl)] at e; cases e⟩
  have sb2 : ∀ b, b ≠ s.heap.objs.size → h2.get? b = h1.get? b := fun b hb => sb.2 b hb
  have st2 : (PySem.W.hideAll B [s.heap.objs.size]).StaysIn h2 := fun b o e => by
    obtain ⟨z1, z2⟩ := hd2 e
    rw [sb2 b z2]; exact k1 b o z1
  have n2 : (PySem.W.hideAll B [s.heap.objs.size]).get? a = none := by
    cases q : (PySem.W.hideAll B [s.heap.objs.size]).get? a with
    | none => rfl
    | some o => rw [(hd2 q).1] at k2; cases k2
  have nT2 : (PySem.W.hideAll B [s.heap.objs.size]).get? T = none := by
    cases q : (PySem.W.hideAll B [s.heap.objs.size]).get? T with
    | none => rfl
    | some o => rw [(hd2 q).1] at nT; cases nT
  have fr2 : h2.FunFrames (PySem.W.hideAll B [s.heap.objs.size]) (X.env :: X.outer) := frames_at k3 fun L hL => by
    have LC : L ≠ s.heap.objs.size := fun z => nfr (by rw [← z, hs]; exact hL)
    refine ⟨?_, sb2 L LC⟩
    cases q : (PySem.W.hideAll B [s.heap.objs.size]).get? L with
    | none => rfl
    | some o =>
      have := (k3.mem hL).1
      rw [(hd2 q).1] at this; cases this
  have held2 : HandSPX.HeldZ (PySem.W.hideAll B [s.heap.objs.size]) (X.env :: X.outer) a (Zc cls d) X.env.locals h2 :=
    ⟨st2, n2, fr2, oa, va, T, oT, vT, (sb2 a aC).trans ea, za, da, a1, nT2, Ta, (sb2 T TC).trans eT, dT, t3⟩
  have I6 : Inv X pins σ H1 { sI with heap := PySem.W.hideAll sI.heap [s.heap.objs.size], toks := sI.toks } := I5.turned (fun b o hb e => PySem.W.hideAll_get _ e (by simp [hb])) fC.1 fC.2.1 fC.2.2.2.1 fC.2.2.2.2.1 fC.2.2.2.2.2
  unfold PySem.passOn
  refine wpAny_bind (wpAny_field ((sb2 a aC).trans ea) da a1 ?_)
  rw [if_neg (by simp)]
  have last : wpAny (model X.prog X.w) X.A (setFlight (.ref a) c1.frame) (fun _ s4 => wpAny (model X.prog X.w) X.A (throw (.ref a) : Sem Value) (fun _ _ => False) X.xe s4) X.xe { s' with heap := h2 } := by
    rw [hc1, hf]
    refine HandSPX.setFlight_onZ held2 fun h3 held3 up3 => wpAny_throw (tk _ _ ?_)
    refine ⟨a, _, _, pins, σ, H1, cls, d, rfl, I6, fun b o e hb => ?_, fun b o e hn => ?_, .inr (.inr (by rw [hs]; exact held3)), na, os, ag, w⟩
    · obtain ⟨z1, z2⟩ := hd2 e
      exact PySem.W.hideAll_get _ (nb b o z1 hb) (by simp [z2])
    · obtain ⟨z1, z2⟩ := hd2 e
      obtain ⟨sl, q⟩ := up2 b o z1 hn
      obtain ⟨sl3, q3⟩ := up3 b { o with slots := sl } ((sb2 b z2).trans q) hn
      exact ⟨sl3, q3⟩
  first
    | exact wpAny_bind (wpAny_pure (wpAny_bind last))
    | exact wpAny_bind last
theorem ofBx (I : Inv (bx X s H scope ce fp xe) pins σ H' s') : Inv (X.blk s H scope ce fp) pins σ H' s' := ⟨⟨I.ok.mod, I.ok.kind, I.ok.glob, I.ok.blt, I.ok.above, I.ok.inj, I.ok.has, I.ok.cab, I.ok.hd, I.ok.frames, I.ok.stk, I.ok.exf, I.ok.bs, I.ok.bsz, I.ok.noex, I.ok.exfs, I.ok.funs, I.ok.frf⟩,
  I.os, I.bare, I.base, I.loc, I.cell, I.free, I.freeC, I.pin, I.hok, I.len⟩
end
section
variable {X : Cx} {elt tg iter : Expr} {ifs : List Expr} {scope : Scope} {own : List (Str × Nat)} {pos : Pos} {wi : TI} {g : TG} {tt : L2.TT} {te : TE} {W : WX}
theorem lcx_core {pins : List (Addr × Obj)} {s : Shared} {σ : L2.St} {H : Hp} {Q : VK} {pos' : Pos} {use : Option (Value → Sem Unit)} {Qf : Value → Shared → Prop}
    (hs0 : X.stack = X.env :: X.outer) (hf0 : X.env.frame = some X.env.locals) (tk : Takes X W) (hc : X.calm = true) (nd : X.N.Nodup) (I : Inv X pins σ H s) (hi : PI X tg iter wi) (ok : BlkOk X.N X.env.scope scope own)
    (hg : ∀ (s : Shared) (H : Hp) (C : Addr) (cl : List (Str × Addr)) (fp : List Addr), PG (X.blk s H scope (compEnvC scope cl C X.env) fp) tg g)
    (ht : ∀ (s : Shared) (H : Hp) (C : Addr) (cl : List (Str × Addr)) (fp : List Addr), PTs (X.blk s H scope (compEnvC scope cl C X.env) fp) ifs tt)
    (he : ∀ (s : Shared) (H : Hp) (C : Addr) (cl : List (Str × Addr)) (fp : List Addr) (xe : Value → Shared → Prop), Takes (bx X s H scope (compEnvC scope cl C X.env) fp xe) (fun cls d _ H1 => W cls d σ H1) → PE (bx X s H scope (compEnvC scope cl C X.env) fp xe) elt te)
    (hs : ∀ x, foldedSetIterable iter X.env x = pure x) (h : tLc wi g tt te (own.map (·.2)) σ H Q)
    (hRR : ∀ D C s' m H', Inv X pins σ H' s' → Q (.ref D) H' → s'.heap.Ns C m → FpOk X pins H' C → compPost (model X.prog X.w) X.A X.xe use Qf (.ref D) C (.ok .next) s') :
    wpAny (model X.prog X.w) X.A (comprehension (.ListComp elt [⟨tg, iter, ifs, 0⟩] scope pos) scope X.env pos' (newList []) false (eval iter X.env) use) Qf X.xe s := by
  have caught : ∀ y ∈ scope.names, y.2 = .free → ∃ c, X.env.cells.lookup y.1 = some c := fun y hy e => I.ok.has _ (by
    rcases ok.free y hy e with k | k
    · exact .inl k
    · exact .inr k)
  refine lc_free (use := use) rfl hs (closure_ok caught) ok.kind (fun y hy e => by rw [ok.uniq y hy, e]) ?_
  refine thn (hi.run pins s σ H _ I h) fun xv s1 h1 => ?_
  refine thn h1 fun itv s2 h2 => ?_
  obtain ⟨it, fp, tn, J, H2, rfl, I2, T, st2, f2, q⟩ := h2
  refine wpAny_newObj_type (newEnv_comp ?_) (by show 0 ≤ sizeLine; decide)
  generalize eD : s2.heap.objs.size = D
  have nD : H2 D = none := I2.hok.fresh (Nat.le_of_eq eD)
  obtain ⟨Wm, ⟨m0, w0⟩, turn⟩ := q D nD
  generalize es3 : ({ s2 with heap := s2.heap.push { cls := .type "list", data := .seq ([] : List Value).toArray } } : Shared) = s3
  have hh3 : s3.heap = s2.heap.push { cls := .type "list", data := .seq ([] : List Value).toArray } := by rw [← es3]
  have kp3 : ∀ b o, s2.heap.get? b = some o → s3.heap.get? b = some o := fun b o e => by rw [hh3]; exact Heap.get?_push_of_some _ e
  have I3 : Inv X pins σ (upd H2 D (.lst [])) s3 := by
    subst es3
    refine I2.laid (t' := s2.toks) kp3 (Nat.le_of_eq eD) ⟨Nat.zero_le _, [], 0, .nil, ?_⟩
    subst eD
    exact Heap.get?_push_size _ rfl
  have old : ∀ b ∈ fp, b < s2.heap.objs.size := fun b hb => by
    obtain ⟨o, e, _⟩ := T.obj _ _ st2 b hb
    exact Heap.lt_size e
  have f3 : ∀ b ∈ fp, FpOk X pins (upd H2 D (.lst [])) b ∧ b < s3.heap.objs.size := fun b hb => by
    have lt := old b hb
    have bD : b ≠ D := by rw [← eD]; exact Nat.ne_of_lt lt
    refine ⟨⟨by rw [upd_ne bD]; exact (f2 b hb).1, (f2 b hb).2⟩, ?_⟩
    rw [hh3, Heap.size_push]; exact Nat.lt_succ_of_lt lt
  have st3 : tn 0 s3.heap := T.keep _ _ _ st2 fun b _ o e => kp3 b o e
  have I4 := block_start I3 ok nd f3
  generalize ecl : cellsFrom (s3.heap.objs.size + 1) scope.names (cloFrom X.env.cells scope.names []) = cl at I4
  have pg := hg s3 (upd H2 D (.lst [])) s3.heap.objs.size cl fp
  have pt := ht s3 (upd H2 D (.lst [])) s3.heap.objs.size cl fp
  have pe := he s3 (upd H2 D (.lst [])) s3.heap.objs.size cl fp
  show codeAny (model X.prog X.w) X.A (.compStart (.ListComp elt [⟨tg, iter, ifs, 0⟩] scope pos) 0 (.ref it) (.ref D) (compEnvC scope cl s3.heap.objs.size X.env)) (lcPost (model X.prog X.w) X.A X.xe X.env.frame use Qf (.ref D) s3.heap.objs.size)
    { s3 with heap := pushCells (s3.heap.push { cls := .type "dict", data := .dict #[] }) scope.names }
  have cf : (compEnvC scope cl s3.heap.objs.size X.env).frame = X.env.frame := rfl
  have cL : (compEnvC scope cl s3.heap.objs.size X.env).locals = s3.heap.objs.size := rfl
  generalize compEnvC scope cl s3.heap.objs.size X.env = ce at I4 pg pt pe cf cL ⊢
  have none3 : ∀ b ∈ fp, (upd H2 D (.lst [])) b = none := fun b hb => (f3 b hb).1.1
  generalize upd H2 D (.lst []) = H3 at I3 I4 pg pt pe w0 none3 f3
  generalize es4 : ({ s3 with heap := pushCells (s3.heap.push { cls := .type "dict", data := .dict #[] }) scope.names } : Shared) = s4 at I4 ⊢
  have st4 : tn 0 s4.heap := T.keep _ _ _ st3 fun b _ o e => by
    subst es4
    exact pushCells_keeps _ _ _ _ (Heap.get?_push_of_some _ e)
  have px := pe (notedBy (model X.prog X.w) X.A ce fun e s1 => lcPost (model X.prog X.w) X.A X.xe X.env.frame use Qf (.ref D) s3.heap.objs.size (.error e) s1) fun u s' x => bx_out hs0 hf0 tk I3 cL cf (fun b hb => (f3 b hb).1) x
  have steady : ∀ {σ1 : L2.St} {H1 : Hp} {s1 : Shared}, Inv (X.blk s3 H3 scope ce fp) [] σ1 H1 s1 → (∀ b ∈ fp, H1 b = none) → ∀ b ∈ fp, FpOk (X.blk s3 H3 scope ce fp) [] H1 b := fun {σ1 H1 s1} J1 n1 b hb => by
    refine ⟨n1 b hb, (J1.ok.exf b hb).1, J1.ok.exfs b hb, .inl hb, fun x c e => (J1.ok.exf b hb).2 x c e, fun p hp => ?_⟩
    have hp : p ∈ ([] : List (Addr × Obj)) ++ [] := hp
    simp at hp
  refine codeAny_compStart_list ?loop (T.self X.A 0 _ _ _ st4 ?loop)
  refine compLoop_any (fun n s1 => ∃ i H1, Inv (X.blk s3 H3 scope ce fp) [] (wipe σ (own.map (·.2))) H1 s1 ∧ tn i s1.heap ∧ (∀ b ∈ fp, H1 b = none) ∧ Wm i n H1) ?_ m0 ⟨0, H3, I4, st4, none3, w0⟩
  rintro n s5 ⟨i, H5, I5, st5, n5, w5⟩
  rcases turn i n H5 w5 with ⟨stop, qq⟩ | ⟨go, Nx, hNx, step⟩
  · refine thnF (T.done (X.blk s3 H3 scope ce fp) rfl rfl rfl hc i [] s5 _ H5 (fun _ _ => False) I5 (steady I5 n5) st5 stop) fun r s6 ⟨hr, I6⟩ => ?_
    subst hr
    have I7 : Inv X pins σ H5 s6 := I3.call' (ch := fp) I6.os I6.base I6.hok I6.bare fun b hb => by
      have z := (f3 b hb).1.2
      exact ⟨z.2.2.1, z.1, z.2.2.2.1, z.2.2.2.2⟩
    have nC : H5 s3.heap.objs.size = none := by
      have z : H5 ce.locals = none := I6.free
      rw [cL] at z; exact z
    obtain ⟨m, hn, _⟩ := I6.loc
    have hn : s6.heap.Ns ce.locals m := hn
    rw [cL] at hn
    exact hRR D _ s6 m H5 I7 qq hn (I3.fpOk (Nat.le_refl _) nC)
  · refine thnF (T.item (X.blk s3 H3 scope ce fp) rfl rfl rfl hc i [] s5 _ H5 (fun _ _ => False) I5 (steady I5 n5) st5 go) fun r s6 ⟨u, hr, h6⟩ => ?_
    subst hr
    refine thnF h6 fun _ s7 ⟨x, H7, I7, r7, y7, st7, n7⟩ => ?_
    have P7 := I7.pinned (steady I7 n7) (T.obj _ _ st7)
    refine thnF (pg.run _ s7 _ H7 x u _ P7 r7 (step x H7 y7)) fun _ s8 ⟨σ8, H8, I8, hw8, q8⟩ => ?_
    refine thnF (pt.run _ s8 σ8 H8 _ I8 q8) fun b s9 ⟨H9, I9, q9⟩ => ?_
    have onward : ∀ {s1 : Shared} {H1 : Hp}, Inv (X.blk s3 H3 scope ce fp) ([] ++ pinsAt fp s7.heap) σ8 H1 s1 → Nx H1 →
        ∃ m, m < n ∧ ∃ i H1, Inv (X.blk s3 H3 scope ce fp) [] (wipe σ (own.map (·.2))) H1 s1 ∧ tn i s1.heap ∧ (∀ b ∈ fp, H1 b = none) ∧ Wm i m H1 := fun {s1 H1} J1 nx => by
      obtain ⟨m1, hm, w1⟩ := hNx H1 nx
      have pinned : ∀ b ∈ fp, ∀ o, s7.heap.get? b = some o → s1.heap.get? b = some o ∧ H1 b = none := fun b hb o e => by
        have z := J1.pin (b, o) (List.mem_append_right _ (List.mem_append_right _ (mem_pinsAt hb e)))
        exact ⟨z.1, z.2.1⟩
      refine ⟨m1, hm, i + 1, H1, (J1.unpinned (pins := [])).weak (by rw [← hw8, wipe_length]) (fun j v e => ?_), T.keep _ _ _ st7 fun b hb o e => (pinned b hb o e).1, fun b hb => ?_, w1⟩
      · rw [← hw8] at e
        exact (wipe_some e).1
      · obtain ⟨o, e, _⟩ := T.obj _ _ st7 b hb
        exact (pinned b hb o e).2
    cases b with
    | false =>
      rw [if_neg Bool.false_ne_true] at q9 ⊢
      exact onward I9 q9
    | true =>
      rw [if_pos rfl] at q9 ⊢
      refine wpAny_mono (px.run _ s9 σ8 H9 _ (toBx I9) q9) (fun z s10 ⟨yv, H10, J10, r10, acc, hD10, hz10, nx⟩ => ?_) fun _ _ z => z
      exact app_ok (X := X.blk s3 H3 scope ce fp) (ofBx J10) hD10 hz10 r10 fun s11 I11 => onward I11 nx
/-- y = [..] on one line, y a local -/
theorem ps_setLcx {te : L2.St → TE} {i : Nat} {y : Str} {py spos : Pos} (hs0 : X.stack = X.env :: X.outer) (hf0 : X.env.frame = some X.env.locals) (tk : Takes X W) (hc : X.calm = true) (nd : X.N.Nodup) (hy : X.N[i]? = some y) (hyl : X.env.scope.names.lookup y = some .local)
    (hsw : swapsWith (.ListComp elt [⟨tg, iter, ifs, 0⟩] scope pos) (some (.Name y py)) spos.line X.env = pure true) (hi : PI X tg iter wi) (ok : BlkOk X.N X.env.scope scope own)
    (hg : ∀ (s : Shared) (H : Hp) (C : Addr) (cl : List (Str × Addr)) (fp : List Addr), PG (X.blk s H scope (compEnvC scope cl C X.env) fp) tg g)
    (ht : ∀ (s : Shared) (H : Hp) (C : Addr) (cl : List (Str × Addr)) (fp : List Addr), PTs (X.blk s H scope (compEnvC scope cl C X.env) fp) ifs tt)
    (he : ∀ (σ : L2.St) (s : Shared) (H : Hp) (C : Addr) (cl : List (Str × Addr)) (fp : List Addr) (xe : Value → Shared → Prop), Takes (bx X s H scope (compEnvC scope cl C X.env) fp xe) (fun cls d _ H1 => W cls d σ H1) → PE (bx X s H scope (compEnvC scope cl C X.env) fp xe) elt (te σ))
    (hs : ∀ x, foldedSetIterable iter X.env x = pure x) : PS X (.Assign [.Name y py] (.ListComp elt [⟨tg, iter, ifs, 0⟩] scope pos) spos) (fun D σ H => tLc wi g tt (te σ) (own.map (·.2)) σ H fun v H1 => gName i v σ H1 D.nx) := by
  refine ⟨fun pins s σ H D I h => ?_⟩
  rw [exec_Assign_Name_used _ _ _ _ hsw]
  refine wpAny_bind (wpAny_standAt (wpAny_bind ?_))
  show wpAny (model X.prog X.w) X.A (do
    let _ ← comprehension (.ListComp elt [⟨tg, iter, ifs, 0⟩] scope pos) scope X.env (firstIterPos [⟨tg, iter, ifs, 0⟩] pos) (newList []) false (eval iter X.env) (some (assign (.Name y py) X.env))) _ X.xe s
  refine wpAny_bind (thn (lcx_core (Qf := fun _ s1 => SP X pins D .next s1) hs0 hf0 tk hc nd I hi ok hg ht (fun s H C cl fp xe t => he σ s H C cl fp xe t) hs h fun L C s1 m H1 I1 q hn f => ?_) fun _ s1 z => wpAny_pure (wpAny_pure z))
  show wpAny (model X.prog X.w) X.A (assign (.Name y py) X.env (.ref L)) _ _ _
  refine wpAny_assign_Name (store_ok2 (v := V.ref L) I1 nd hy (.inl hyl) rfl (fun s2 I2 ⟨a, sb, ha⟩ => ?_) (.inr hyl))
  have Ca : C ≠ a := by
    rcases ha with z | z
    · rw [z]; exact f.2.1
    · exact fun e => f.2.2.2.2.1 y a z e.symm
  refine ⟨m, hn.sameBut sb Ca, fun h3 sb3 => ⟨_, H1, ?_, q⟩⟩
  exact I2.turned (t' := s2.toks) (fun b o hb e => (sb3.2 b hb).trans e) f.1 f.2.1 f.2.2.2.1 f.2.2.2.2.1 f.2.2.2.2.2
end
/-! ### the clean rule -/
section
variable {G : Gl} {X : Cx} {C : Calls} {hx : Option Nat}
variable {e : Expr} {pos p : Pos} {y : Str}
/-- the surroundings of an item: the def's, at its slots σ0 -/
def bxSx {K : PySem.W.Frag} {W : WX} (x : Sx G K W) (σ0 : L2.St) : Sx G K (fun cls d _ H1 => W cls d σ0 H1) where
  μ0 := x.μ0
  H0 := x.H0
  EX := x.EX
  P := fun μ H _ => x.P μ H σ0
  mono := fun e h => x.mono e h
  ok := fun c S' μ' H' σ' C0 h e r hP hk => x.ok c S' μ' H' σ0 C0 h e r hP hk
def turnX (G : Gl) (C : Calls) (hx : Option Nat) (i : Nat) (me : Tm) (EX : PX) (ρ : Env) : D → Sto → (Option D → Sto → Prop) → Prop := fun x S2 k => wpE G.T C hx me (ρ.set i (some x)) S2 (fun d S3 => k (some d) S3) EX
theorem compX_core (hC : MonoC C) {W : WX} {x : Sx G X.K W} {J : It} {items : List D} {stand : Sto → Prop} {i : Nat} {me : Tm} {Q : VK} {μ0 μ1 : Mu} {S1 : Sto} {H0 H1 : Hp} {σ1 : L2.St} {ρ1 : Env} (wd : Wd x σ1 H1 μ1 S1 ρ1) (e0 : Ext μ0 H0 μ1 H1)
    (hJ : SrcOk G X.K μ1 H1 J items stand) (q : compN S1.length stand (turnX G C hx i me x.EX ρ1) (fun S2 => LQ G.N X.K μ0 H0 Q (.ref S1.length) S2) items [] (S1 ++ [.lst []])) (D : Addr) (hD : H1 D = none) :
    ∃ Wm : Nat → Nat → Hp → Prop, (∃ m, Wm 0 m (upd H1 D (.lst []))) ∧ ∀ j m H, Wm j m H →
      (J.stop j H ∧ Q (.ref D) H) ∨ (J.go j H ∧ ∃ Nx : Hp → Prop, (∀ H', Nx H' → ∃ m', m' < m ∧ Wm (j + 1) m' H') ∧ ∀ v H', J.yld j H v H' → gName i v (wipe σ1 [i]) H' fun σ2 H2 => wipe σ2 [i] = wipe σ1 [i] ∧ tYes σ2 H2 fun b H3 =>
        if b = true then LE (bxSx x σ1) (mE G C hx me) σ2 H3 fun y H4 => ∃ acc, H4 D = some (.lst acc) ∧ acc.length < sizeLine ∧ Nx (upd H4 D (.lst (acc ++ [y]))) else Nx H3) := by
  have hl := hJ.low (wd.rel.pushExt (o := .lst []) hD)
  have eD := wd.rel.pushExt (o := .lst []) hD
  have R1 := wd.rel.push (ob := .lst []) hD ⟨[], upd_same, .nil⟩
  have lastA : ∀ {μ : Mu} {H : Hp}, Ext (muAdd μ1 S1.length D) (upd H1 D (.lst [])) μ H → μ S1.length = some D := fun e => e.mu _ _ muAdd_self
  let Inn : Nat → Hp → Prop := fun j H => j ≤ items.length ∧ ∃ μ S acc, Ext (muAdd μ1 S1.length D) (upd H1 D (.lst [])) μ H ∧ Rel G.N X.K μ S H ∧
    compN S1.length stand (turnX G C hx i me x.EX ρ1) (fun S2 => LQ G.N X.K μ0 H0 Q (.ref S1.length) S2) (items.drop j) acc S
  refine ⟨fun j m H => m = items.length - j ∧ Inn j H, ⟨_, rfl, Nat.zero_le _, _, _, [], Ext.refl _ _, R1, q⟩, ?_⟩
  rintro j m H ⟨rfl, hj, μ, S, acc, ex, R, cn⟩
  rcases Nat.lt_or_ge j items.length with hlt | hge
  · rw [List.drop_eq_getElem_cons hlt] at cn
    obtain ⟨st, ac, tu⟩ := cn
    refine .inr ⟨hl.go j μ S H ex R st hlt, Inn (j + 1), fun H' z => ⟨items.length - (j + 1), by omega, rfl, z⟩, fun v H' yy => ?_⟩
    obtain ⟨ex2, R2, rv⟩ := hl.yld j μ S H v H' items[j] ex R st (List.getElem?_eq_getElem hlt) yy
    have eσ : (wipe σ1 [i]).set i (some v) = σ1.set i (some v) := by
      show (σ1.set i none).set i (some v) = _
      rw [List.set_set]
    show wipe ((wipe σ1 [i]).set i (some v)) [i] = wipe σ1 [i] ∧ tYes _ _ _
    refine ⟨by rw [eσ]; show (σ1.set i (some v)).set i none = σ1.set i none; rw [List.set_set], tYes_of ?_⟩
    have far := (eD.trans ex).trans ex2
    have re2 : RE X.K μ H' (ρ1.set i (some items[j])) ((wipe σ1 [i]).set i (some v)) := by
      rw [eσ]; exact (wd.re.ext far).set rv
    refine ⟨μ, S, ρ1.set i (some items[j]), ⟨wd.ext.trans far, R2, re2, x.mono far wd.p⟩, monoE hC me _ _ _ _ _ _ (fun d S4 ⟨g1, g2, g3⟩ => ?_) (fun _ _ z => z) tu⟩
    intro μ4 H4 w e4 R4 r4
    have all := (ex.trans ex2).trans e4
    obtain ⟨a', ha', vs, hv, hr⟩ := R4.at_ _ _ g1
    rw [lastA all] at ha'
    cases ha'
    have mu : Mut (H4 D) := by rw [hv]; trivial
    have up : Ext μ4 H4 μ4 (upd H4 D (.lst (vs ++ [w]))) := Ext.upd (.inr mu)
    refine ⟨vs, hv, by rw [hr.length, lim_eq]; exact g2, hlt, μ4, _, acc ++ [d], all.trans up, ?_, g3⟩
    exact R4.write (ob := .lst (acc ++ [d])) (lastA all) mu ⟨_, upd_same, (hr.append (.cons r4 .nil)).ext up⟩
  · have : j = items.length := Nat.le_antisymm hj hge
    subst this
    rw [List.drop_length] at cn
    exact .inl ⟨hl.stop _ μ S H ex R cn.1 rfl, cn.2.2 μ H (.ref D) ((e0.trans eD).trans ex) R (.ref (lastA ex))⟩
/-- the parts of the rule -/
structure CompRX (G : Gl) (C : Calls) (hx : Option Nat) (X : Cx) (elt : Expr) (y : Str) (i : Nat) (pt : Pos) (iter : Expr) (scope : Scope) (src : Src) (me : Tm) : Prop where
  stk : X.stack = X.env :: X.outer
  frm : X.env.frame = some X.env.locals
  calm : X.calm = true
  nd : X.N.Nodup
  src : CI G C hx X (.Name y pt) iter src
  ok : BlkOk X.N X.env.scope scope [(y, i)]
  hg : ∀ (s : Shared) (H : Hp) (D : Addr) (cl : List (Str × Addr)) (fp : List Addr), PG (X.blk s H scope (compEnvC scope cl D X.env) fp) (.Name y pt) (gName i)
  he : ∀ (s : Shared) (H : Hp) (D : Addr) (cl : List (Str × Addr)) (fp : List Addr) (xe : Value → Shared → Prop), CE G C hx (bx X s H scope (compEnvC scope cl D X.env) fp xe) elt me
  hs : ∀ x, foldedSetIterable iter X.env x = pure x
theorem compX_read (hC : MonoC C) {i : Nat} {src : Src} {me : Tm} {W : WX} (x : Sx G X.K W) {σ : L2.St} {H : Hp} {Q : VK} {μ : Mu} {S : Sto} {ρ : Env} (wd : Wd x σ H μ S ρ) (q : wpE G.T C hx (.compX me i src) ρ S (LQ G.N X.K μ H Q) x.EX) :
    tLc (fun σ H R => ∃ μ S ρ, Wd x σ H μ S ρ ∧ wpI G.T C hx src ρ S (fun w S1 => ∀ μ1 H1, Ext μ H μ1 H1 → Rel G.N X.K μ1 S1 H1 → ∀ J, SrcOk G X.K μ1 H1 J w.items w.stand → R J H1) x.EX) (gName i) tYes (LE (bxSx x σ) (mE G C hx me)) [i] σ H Q := by
  refine ⟨μ, S, ρ, wd, monoI hC q fun w S1 q1 μ1 H1 e1 R1 J hJ D hD => ?_⟩
  exact compX_core hC (wd.next e1 R1) e1 hJ q1 D hD
theorem cs_asgLcX (hC : MonoC C) {elt iter : Expr} {i j : Nat} {z : Str} {pt pz spos : Pos} {scope : Scope} {src : Src} {me : Tm} (r : CompRX G C hx X elt y i pt iter scope src me) (hz : X.N[j]? = some z) (hzl : X.env.scope.names.lookup z = some .local)
    (hsw : swapsWith (.ListComp elt [⟨.Name y pt, iter, [], 0⟩] scope pos) (some (.Name z pz)) spos.line X.env = pure true) : CS G C hx X (.Assign [.Name z pz] (.ListComp elt [⟨.Name y pt, iter, [], 0⟩] scope pos) spos) (.asg j (.compX me i src)) := fun W tk x ha => by
  refine (ps_setLcx (own := [(y, i)]) (te := fun σ => LE (bxSx x σ) (mE G C hx me)) r.stk r.frm tk r.calm r.nd hz hzl hsw (r.src W tk x) r.ok r.hg (fun _ _ _ _ _ => pts_nil) (fun σ s H D cl fp xe t => r.he s H D cl fp xe _ t (bxSx x σ)) r.hs).imp fun σ H D ⟨μ, S, ρ, k, wd, q, kd⟩ => ?_
  refine compX_read hC x wd (monoE hC _ _ _ _ _ _ _ (fun d S1 q1 => ?_) (fun _ _ z => z) q)
  exact fun μ1 H1 v e1 R1 r1 => kd.nx μ1 H1 S1 _ _ e1 ((wd.next e1 R1).set ha r1) q1
end
end Mp
/-! zfill, upper, index of a figure. -/
namespace Mp
open PySem PySem.Spec PyProof.Rows L2
section
variable {G : Gl} {K : PySem.W.Frag}
def rUpperS : V → List V → Hp → VK → Prop := fun x xs H Q => ∃ a, x = .str a ∧ xs = [] ∧ a.length ≤ 5592405 ∧ Q (.str (Txt.upper a)) H
theorem up_one : ∀ c, c < 128 → Unicode.upperOf c = [upC c] := by decide +kernel
theorem upper_S {a : List Nat} (h : a.all (· < 128) = true) : Txt.upper (SX.S a) = SX.S (a.map upC) := by
  have e : ∀ l : List Nat, (∀ c ∈ l, c < 128) → (l.map fun c => (Unicode.upperOf c).toArray.toList).flatten = l.map upC := by
    intro l
    induction l with
    | nil => intro _; rfl
    | cons c l ih =>
      intro hl
      rw [List.map_cons, List.flatten_cons, ih fun z hz => hl z (by simp [hz]), up_one c (hl c (by simp))]
      rfl
  have e2 := e a fun c hc => by simpa using List.all_eq_true.mp h c hc
  unfold Txt.upper placed
  refine congrArg Str.mk (Array.ext' ?_)
  rw [Array.toList_flatten, Array.toList_mapIdx]
  show (List.map Array.toList (List.mapIdx (fun i c => (Unicode.upperOf c).toArray) a)).flatten = _
  have e3 : List.mapIdx (fun (i : Nat) c => (Unicode.upperOf c).toArray) a = a.map fun c => (Unicode.upperOf c).toArray := by
    refine List.ext_getElem? fun i => ?_
    rw [List.getElem?_mapIdx, List.getElem?_map]
  rw [e3, List.map_map]
  exact e2
theorem vm_upper : VOM G K oUpper rUpperS := fun μ0 H0 μ S H x dx vs ds Q d S' e R rx rd h q => by
  unfold oUpper at h
  split at h
  · rename_i S2 a ez
    cases ez
    split at h
    · rename_i hl
      obtain ⟨h1, h2⟩ := hl
      cases h
      cases rd
      refine ⟨SX.S a, rx.str_inv, rfl, by rw [SX.S_len]; exact h2, ?_⟩
      have h1' : a.all (· < 128) = true := by simpa using h1
      rw [upper_S h1']
      refine q.give e R (RD.str' fun c hc => ?_)
      obtain ⟨z, hz, rfl⟩ := List.mem_map.mp hc
      have : z < 128 := by simpa using List.all_eq_true.mp h1' z hz
      unfold upC
      split <;> omega
    · cases h
  · cases h
end
end Mp
/-! How clean code is run: what each operator asks and gives, loops by their invariants, stores that grow. -/
namespace Mp
open PySem
/-- old objects stay -/
def Gr (S S' : Sto) : Prop := ∀ (r : Nat) (ob : Ob), S[r]? = some ob → S'[r]? = some ob
theorem Gr.refl (S : Sto) : Gr S S := fun _ _ h => h
theorem Gr.trans {S S' S'' : Sto} (h : Gr S S') (h' : Gr S' S'') : Gr S S'' := fun r ob e => h' r ob (h r ob e)
theorem Gr.push (S T : Sto) : Gr S (S ++ T) := fun r ob e => by
  have hr : r < S.length := (List.getElem?_eq_some_iff.mp e).1
  rw [List.getElem?_append_left hr]; exact e
theorem Gr.set {S0 S : Sto} {r : Nat} {ob : Ob} (h : Gr S0 S) (hr : S0.length ≤ r) : Gr S0 (S.set r ob) := fun q o e => by
  have hq : q < S0.length := (List.getElem?_eq_some_iff.mp e).1
  rw [List.getElem?_set_ne (by omega)]; exact h q o e
theorem Gr.len {S S' : Sto} (h : Gr S S') : S.length ≤ S'.length := by
  by_cases z : S.length = 0
  · omega
  · have : S.length - 1 < S.length := by omega
    have := h (S.length - 1) _ (List.getElem?_eq_getElem this)
    have := (List.getElem?_eq_some_iff.mp this).1
    omega
theorem at_push (S : Sto) (ob : Ob) : (S ++ [ob])[S.length]? = some ob := by simp
theorem at_set {S : Sto} {r : Nat} {o ob : Ob} (h : S[r]? = some o) : (S.set r ob)[r]? = some ob := by
  have hr : r < S.length := (List.getElem?_eq_some_iff.mp h).1
  simp [hr]
section
variable {T : Tab} {S : Sto} {Q : PQ} {i j : Int} {a b : List Nat} {x y d : D} {ds es : List D} {r q : Nat}
theorem od_ite {o : Op} {c : Prop} [Decidable c] {z : D × Sto} (h : opF T o ds S = if c then some z else none) : opD T o ds S Q = (c ∧ Q z.1 z.2) := by
  unfold opD
  rw [h]
  by_cases k : c
  · simp [k]
  · simp [k]
theorem od_some {o : Op} {z : D × Sto} (h : opF T o ds S = some z) : opD T o ds S Q = Q z.1 z.2 := by
  unfold opD; rw [h]
theorem od_addI : opD T .add [.int i, .int j] S Q = Q (.int (i + j)) S := rfl
theorem od_addS : opD T .add [.str a, .str b] S Q = (a.length + b.length ≤ LIM ∧ Q (.str (a ++ b)) S) := od_ite (z := (.str (a ++ b), S)) rfl
theorem od_sub : opD T .sub [.int i, .int j] S Q = Q (.int (i - j)) S := rfl
theorem od_mulI : opD T .mul [.int i, .int j] S Q = ((i.natAbs < 2 ^ 64 ∨ j.natAbs < 2 ^ 64) ∧ Q (.int (i * j)) S) := od_ite (z := (.int (i * j), S)) rfl
theorem od_mulS : opD T .mul [.str a, .int j] S Q = ((j.natAbs < 2 ^ 62 ∧ a.length * j.toNat ≤ LIM) ∧ Q (.str (List.replicate j.toNat a).flatten) S) := od_ite (z := (.str (List.replicate j.toNat a).flatten, S)) rfl
theorem od_div : opD T .fdiv [.int i, .int j] S Q = ((0 < j ∧ j < 1073741824) ∧ Q (.int (i / j)) S) := od_ite (z := (.int (i / j), S)) rfl
theorem od_mod : opD T .mod [.int i, .int j] S Q = (0 < j ∧ Q (.int (i % j)) S) := od_ite (z := (.int (i % j), S)) rfl
theorem od_pow : opD T .pow [.int i, .int j] S Q = ((0 ≤ j ∧ j ≤ 1000000 ∧ i.natAbs < 2 ^ 64) ∧ Q (.int (i ^ j.toNat)) S) := od_ite (z := (.int (i ^ j.toNat), S)) rfl
theorem od_neg : opD T .neg [.int i] S Q = Q (.int (-i)) S := rfl
theorem od_not {k : Bool} : opD T .bnot [.bl k] S Q = Q (.bl (!k)) S := rfl
theorem eqD_int : eqD S (.int i) (.int j) = some (decide (i = j)) := by
  unfold eqD
  simp only [pd, PyData.eqv]
  congr 1
theorem od_map {β : Type} {o : Op} {f : Option β} {g : β → D × Sto} (h : opF T o ds S = f.map g) : opD T o ds S Q = ∃ b, f = some b ∧ Q (g b).1 (g b).2 := by
  unfold opD
  rw [h]
  cases f with
  | none => simp
  | some b => simp
theorem od_eq : opD T .eq [x, y] S Q = ∃ k, eqD S x y = some k ∧ Q (.bl k) S := od_map (f := eqD S x y) (g := fun k => (.bl k, S)) rfl
theorem od_ne : opD T .ne [x, y] S Q = ∃ k, eqD S x y = some k ∧ Q (.bl (!k)) S := od_map (f := eqD S x y) (g := fun k => (.bl (!k), S)) rfl
theorem od_eqI : opD T .eq [.int i, .int j] S Q = Q (.bl (decide (i = j))) S := by rw [od_eq, eqD_int]; simp
theorem od_neI : opD T .ne [.int i, .int j] S Q = Q (.bl (!decide (i = j))) S := by rw [od_ne, eqD_int]; simp
theorem od_ltI : opD T .lt [.int i, .int j] S Q = Q (.bl (decide (i < j))) S := rfl
theorem od_le : opD T .le [.int i, .int j] S Q = Q (.bl (decide (i ≤ j))) S := rfl
theorem od_gt : opD T .gt [.int i, .int j] S Q = Q (.bl (decide (j < i))) S := rfl
theorem od_ge : opD T .ge [.int i, .int j] S Q = Q (.bl (decide (j ≤ i))) S := rfl
theorem od_isN : opD T .isN [d] S Q = Q (.bl (decide (d = .non))) S := rfl
theorem od_notN : opD T .notN [d] S Q = Q (.bl (!decide (d = .non))) S := rfl
theorem od_inS {c : Nat} : opD T .inn [.str [c], .str a] S Q = Q (.bl (decide (c ∈ a))) S := rfl
theorem od_ninS {c : Nat} : opD T .nin [.str [c], .str a] S Q = Q (.bl (!decide (c ∈ a))) S := rfl
theorem od_tup : opD T .tup ds S Q = (ds.length ≤ LIM ∧ Q (.tup ds) S) := od_ite (z := (.tup ds, S)) rfl
theorem od_lst : opD T .lst ds S Q = (ds.length ≤ LIM ∧ Q (.ref S.length) (S ++ [.lst ds])) := od_ite (z := (.ref S.length, S ++ [.lst ds])) rfl
theorem od_dnT : opD T .dnT [] S Q = Q (.ref S.length) (S ++ [.dic true false []]) := rfl
theorem op_len : opF T .len = orF oLen oLenD := rfl
theorem op_ix : opF T .ix = orF oIx oIxD := rfl
theorem op_tupOf : opF T .tupOf = oTupOf := rfl
theorem op_cutH : opF T .cutH = oCutH := rfl
theorem od_lenS : opD T .len [.str a] S Q = (a.length ≤ LIM ∧ Q (.int a.length) S) := od_ite (z := (.int a.length, S)) (by
  rw [op_len]; simp only [orF, oLen, oLenD]
  split
  · rename_i r e; exact e.symm
  · rename_i e; exact e.symm)
theorem od_lenT : opD T .len [.tup ds] S Q = Q (.int ds.length) S := rfl
theorem od_lenL (h : S[r]? = some (.lst ds)) : opD T .len [.ref r] S Q = Q (.int ds.length) S := od_some (z := (.int ds.length, S)) (by
  rw [op_len]; simp [orF, oLen, seqD, lstAt, h, seqOf])
theorem od_lenQ : opD T .len [.lis ds] S Q = Q (.int ds.length) S := rfl
theorem or_none {f g : OpF} {e : List D} {z : Option (D × Sto)} (h : g e S = none) (k : f e S = z) : orF f g e S = z := by
  unfold orF; rw [k, h]; cases z <;> rfl
theorem od_ixS (h : a.length ≤ LIM) : opD T .ix [.str a, .int i] S Q = ∃ c, L2.atI a i = some c ∧ Q (.str [c]) S := od_map (f := L2.atI a i) (g := fun c => (.str [c], S)) (by
  rw [op_ix]; exact or_none rfl (by simp [oIx, h]))
theorem od_ixT : opD T .ix [.tup ds, .int i] S Q = ∃ d, L2.atI ds i = some d ∧ Q d S := od_map (f := L2.atI ds i) (g := fun c => (c, S)) (by
  rw [op_ix]; exact or_none rfl rfl)
theorem od_ixL (h : S[r]? = some (.lst ds)) : opD T .ix [.ref r, .int i] S Q = ∃ d, L2.atI ds i = some d ∧ Q d S := od_map (f := L2.atI ds i) (g := fun c => (c, S)) (by
  rw [op_ix]; exact or_none (by simp [oIxD, h]) (by simp [oIx, seqD, lstAt, h, seqOf]))
theorem od_ixQ : opD T .ix [.lis ds, .int i] S Q = ∃ d, L2.atI ds i = some d ∧ Q d S := od_map (f := L2.atI ds i) (g := fun c => (c, S)) (by
  rw [op_ix]; exact or_none rfl rfl)
theorem od_isi {c : Cl} : opD T (.isi [c]) [d] S Q = ∃ k, clsOf T S d c = some k ∧ Q (.bl k) S := od_map (f := clsOf T S d c) (g := fun k => (.bl k, S)) rfl
theorem od_min : opD T .min2 [.int i, .int j] S Q = Q (.int (if j < i then j else i)) S := rfl
theorem od_int1 : opD T .int [.int i] S Q = Q (.int i) S := rfl
theorem od_intB {k : Bool} : opD T .int [.bl k] S Q = Q (.int (if k then 1 else 0)) S := rfl
theorem od_listT : opD T .listOf [.tup ds] S Q = Q (.ref S.length) (S ++ [.lst ds]) := rfl
theorem od_tupT : opD T .tupOf [.tup ds] S Q = Q (.tup ds) S := rfl
theorem od_tupL (h : S[r]? = some (.lst ds)) : opD T .tupOf [.ref r] S Q = Q (.tup ds) S := od_some (z := (.tup ds, S)) (by
  rw [op_tupOf]; simp [oTupOf, seqD, lstAt, h, seqOf])
theorem take_clip : ds.take (clip j ds.length) = ds.take j.toNat := by
  unfold clip
  rw [Nat.min_def]
  split
  · rfl
  · rw [List.take_length, List.take_of_length_le (by omega)]
theorem od_cutHQ : opD T .cutH [.lis ds, .int j] S Q = (0 ≤ j ∧ Q (.ref S.length) (S ++ [.lst (ds.take j.toNat)])) := od_ite (z := (.ref S.length, S ++ [.lst (ds.take j.toNat)])) (by
  rw [op_cutH]; simp [oCutH, cutF, seqD, take_clip])
theorem od_cutHL (h : S[r]? = some (.lst ds)) : opD T .cutH [.ref r, .int j] S Q = (0 ≤ j ∧ Q (.ref S.length) (S ++ [.lst (ds.take j.toNat)])) := od_ite (z := (.ref S.length, S ++ [.lst (ds.take j.toNat)])) (by
  rw [op_cutH]; simp [oCutH, cutF, seqD, lstAt, h, seqOf, take_clip])
theorem ixN_nn {n : Nat} {i : Int} (h0 : 0 ≤ i) (h : i < n) : L2.ixN n i = some i.toNat := by
  unfold L2.ixN; rw [if_pos h0, if_pos h]
theorem atI_nn {α : Type} {xs : List α} {i : Int} (h0 : 0 ≤ i) (h : i < xs.length) : L2.atI xs i = some (xs[i.toNat]'(by omega)) := by
  unfold L2.atI
  rw [ixN_nn h0 h]
  exact List.getElem?_eq_getElem (by omega)
theorem atI_k {α : Type} {xs : List α} {k : Nat} {x : α} (h : xs[k]? = some x) : L2.atI xs (k : Int) = some x := by
  have := (List.getElem?_eq_some_iff.mp h).1
  unfold L2.atI
  rw [ixN_nn (by omega) (by omega)]
  simpa using h
end
section
variable {T : Tab} {S : Sto} {Q : PQ} {i j : Int} {a b : List Nat} {x y d v : D} {ds es : List D} {r q : Nat}
theorem txts_map : ∀ ps : List (List Nat), txts (ps.map .str) = some ps
  | [] => rfl
  | p :: ps => by
    have := txts_map ps
    unfold txts at this ⊢
    rw [List.map_cons, List.mapM_cons, this]; rfl
theorem op_join : opF T .join = oJoin := rfl
theorem od_joinL {ps : List (List Nat)} (h : S[r]? = some (.lst (ps.map .str))) : opD T .join [.str a, .ref r] S Q = ((ps.map (·.length)).sum + ps.length * a.length ≤ LIM ∧ Q (.str (TL.joinL a ps)) S) := od_ite (z := (.str (TL.joinL a ps), S)) (by
  rw [op_join]; simp [oJoin, joinF, seqD, lstAt, h, seqOf, txts_map])
theorem od_joinT {ps : List (List Nat)} : opD T .join [.str a, .tup (ps.map .str)] S Q = ((ps.map (·.length)).sum + ps.length * a.length ≤ LIM ∧ Q (.str (TL.joinL a ps)) S) := od_ite (z := (.str (TL.joinL a ps), S)) (by
  rw [op_join]; simp [oJoin, joinF, txts_map])
theorem setW_lst {Q : Sto → Prop} (h : S[r]? = some (.lst ds)) (h0 : 0 ≤ i) (h1 : i < ds.length) : setW (.ref r) (.int i) v S Q = Q (S.set r (.lst (ds.set i.toNat v))) := by
  unfold setW; simp only [h, ixN_nn h0 h1]
theorem wk_str : wkOf S (.str a) = some ⟨a.map fun c => .str [c], fun _ => True⟩ := rfl
theorem wk_tup : wkOf S (.tup ds) = some ⟨ds, fun _ => True⟩ := rfl
theorem wk_lst (h : S[r]? = some (.lst ds)) : wkOf S (.ref r) = some ⟨ds, fun S' => seqD S' (.ref r) = some ds⟩ := by
  show (seqD S (.ref r)).map _ = _
  simp only [seqD, lstAt, h, seqOf, Option.bind_some, Option.map_some]
theorem sq_lst (h : S[r]? = some (.lst ds)) : seqD S (.ref r) = some ds := by
  simp only [seqD, lstAt, h, seqOf, Option.bind_some]
end
section
variable {T : Tab} {S : Sto} {Q : PQ} {i j : Int} {a b : List Nat} {x y d v : D} {ds es : List D} {r q : Nat} {k : Bool}
theorem op_inn : opF T .inn = orF (oInStr false) (orF (oInSeq false) (oInDic false)) := rfl
theorem inStr_ref {neg : Bool} : oInStr neg [d, .ref r] S = none := by
  unfold oInStr; split
  · rename_i e; cases e
  · rfl
theorem od_inL (h : S[r]? = some (.lst ds)) (hk : inD S d ds = some k) : opD T .inn [d, .ref r] S Q = Q (.bl k) S := od_some (z := (.bl k, S)) (by
  rw [op_inn]; unfold orF; rw [inStr_ref]; simp [oInSeq, sq_lst h, hk])
theorem op_lt : opF T .lt = orF (oCmp fun i j => decide (i < j)) oLtT := rfl
theorem atI_last {α : Type} {xs : List α} {x : α} : L2.atI (xs ++ [x]) (-1) = some x := by
  unfold L2.atI L2.ixN
  have h1 : ¬ (0 : Int) ≤ -1 := by decide
  rw [if_neg h1, if_pos (by simp; omega)]
  simp only [Option.bind_some]
  have : (-1 + ((xs ++ [x]).length : Int)).toNat = xs.length := by simp; omega
  rw [this]; simp
/-- a comprehension that reads -/
theorem compN_fun (f : D → D) {r : Nat} {stand : Sto → Prop} {turn : D → Sto → (Option D → Sto → Prop) → Prop} {k : Sto → Prop} {S0 : Sto} (hr : S0.length ≤ r) (hst : ∀ S, Gr S0 S → stand S) :
    ∀ (items acc : List D) (S : Sto), (∀ x ∈ items, ∀ S kk, Gr S0 S → kk (some (f x)) S → turn x S kk) → Gr S0 S → S[r]? = some (.lst acc) → acc.length + items.length ≤ 1000 →
    (∀ S, Gr S0 S → S[r]? = some (.lst (acc ++ items.map f)) → k S) → compN r stand turn k items acc S
  | [], acc, S, ht, g, h, hl, hk => ⟨hst S g, h, hk S g (by simpa using h)⟩
  | x :: xs, acc, S, ht, g, h, hl, hk => by
    simp only [List.length_cons] at hl
    refine ⟨hst S g, h, ht x (by simp) S _ g ⟨h, by show acc.length < 16777216; omega, ?_⟩⟩
    refine compN_fun f hr hst xs (acc ++ [f x]) _ (fun y hy => ht y (by simp [hy])) (g.set hr) (at_set h) (by simp; omega) fun S' g' h' => hk S' g' ?_
    rw [h']; simp
theorem mem_rng {i c : Int} {n : Nat} {x : D} (h : x ∈ rngItems i c n) : ∃ k : Nat, k < n ∧ x = .int (i + k * c) := by
  unfold rngItems at h
  obtain ⟨k, hk, rfl⟩ := List.mem_map.mp h
  exact ⟨k, by simpa using hk, rfl⟩
end
/-! ### loops -/
section
variable {T : Tab} {C : Calls} {hx : Option Nat}
/-- a walk by an invariant that counts the turns (no break, no continue) -/
theorem foN_ix {asg : D → Env → Option Env} {stand : Sto → Prop} {wb : Env → Sto → Kt → Prop} {K : Kt} {items : List D} (P : Nat → Env → Sto → Prop) (hst : ∀ j ρ S, P j ρ S → stand S)
    (step : ∀ j x ρ S (K' : Kt), items[j]? = some x → P j ρ S → (∀ ρ' S', P (j + 1) ρ' S' → K'.nx ρ' S') → K'.rt = K.rt → ∃ ρ', asg x ρ = some ρ' ∧ wb ρ' S K') (fin : ∀ ρ S, P items.length ρ S → K.nx ρ S) (ρ : Env) (S : Sto) (h : P 0 ρ S) : foN asg stand wb K items ρ S := by
  have go : ∀ (rest : List D) (j : Nat) (ρ : Env) (S : Sto), items.drop j = rest → j ≤ items.length → P j ρ S → foN asg stand wb K rest ρ S := by
    intro rest
    induction rest with
    | nil =>
      intro j ρ S e hj h
      have : j = items.length := by
        have := congrArg List.length e
        simp at this; omega
      subst this
      exact ⟨hst _ _ _ h, fin _ _ h⟩
    | cons x xs ih =>
      intro j ρ S e hj h
      have hlt : j < items.length := by
        rcases Nat.lt_or_ge j items.length with z | z
        · exact z
        · rw [List.drop_eq_nil_of_le z] at e; cases e
      have e2 := List.drop_eq_getElem_cons hlt
      rw [e] at e2
      injection e2 with e3 e4
      obtain ⟨ρ', a1, a2⟩ := step j x ρ S { nx := foN asg stand wb K xs, rt := K.rt, bk := K.nx, ct := foN asg stand wb K xs } (by rw [e3]; exact List.getElem?_eq_getElem hlt) h (fun ρ' S' h' => ih (j + 1) ρ' S' e4.symm hlt h') rfl
      refine ⟨hst _ _ _ h, ?_⟩
      rw [a1]; exact a2
  exact go items 0 ρ S rfl (Nat.zero_le _) h
theorem rng_get {i c : Int} {n j : Nat} {x : D} (h : (rngItems i c n)[j]? = some x) : j < n ∧ x = .int (i + (j : Nat) * c) := by
  have hj : j < n := by
    have := (List.getElem?_eq_some_iff.mp h).1
    simpa [rngItems] using this
  refine ⟨hj, ?_⟩
  unfold rngItems at h
  rw [List.getElem?_map, List.getElem?_range hj] at h
  exact (Option.some.inj h).symm
end
end Mp
/-! More of the same: lists of texts, dicts that are walked. -/
namespace Mp
open PySem
section
variable {T : Tab} {S : Sto} {Q : PQ} {i j : Int} {a b : List Nat} {x y d v : D} {ds es : List D} {r q : Nat} {k : Bool} {ss : List (List Nat)}
theorem pd_strs1 {n : Nat} : ∀ ss : List (List Nat), (ss.map D.str).mapM (pd S (n + 1)) = some (ss.map sD)
  | [] => rfl
  | s :: ss => by rw [List.map_cons, List.mapM_cons, pd_strs1 ss]; rfl
theorem in_str (a : List Nat) (ss : List (List Nat)) : inD S (.str a) (ss.map .str) = some (decide (a ∈ ss)) := by
  unfold inD
  rw [show pd S 12 (.str a) = some (sD a) from rfl, pd_strs1 (n := 11)]
  simp only
  congr 1
  induction ss with
  | nil => simp
  | cons s ss ih =>
    rw [List.map_cons, List.any_cons, ih, eqv_str]
    by_cases h : s = a
    · subst h; simp
    · have : ¬ a = s := fun z => h z.symm
      simp [h, this]
theorem eqvAll_sD : ∀ a b : List (List Nat), PyData.eqvAll (a.map sD) (b.map sD) = decide (a = b)
  | [], [] => by simp [PyData.eqvAll]
  | [], b :: t => by simp [PyData.eqvAll]
  | a :: r, [] => by simp [PyData.eqvAll]
  | a :: r, b :: t => by
    rw [List.map_cons, List.map_cons, PyData.eqvAll, eqv_str, eqvAll_sD r t]
    by_cases h : a = b <;> by_cases h2 : r = t <;> simp [h, h2]
theorem pd_lst (h : S[r]? = some (.lst (ss.map .str))) : pd S 12 (.ref r) = some (.list (ss.map sD)) := by
  rw [pd]
  simp only [lstAt, h, seqOf, Option.bind_some]
  rw [pd_strs1 (n := 10)]; rfl
theorem eq_strs {t : List (List Nat)} (h1 : S[r]? = some (.lst (ss.map .str))) (h2 : S[q]? = some (.lst (t.map .str))) : eqD S (.ref r) (.ref q) = some (decide (ss = t)) := by
  unfold eqD
  rw [pd_lst h1, pd_lst h2]
  simp only
  rw [PyData.eqv, eqvAll_sD]
theorem op_cutL : opF T .cutL = oCutL := rfl
theorem od_cutLL (h : S[r]? = some (.lst ds)) : opD T .cutL [.ref r, .int i] S Q = (0 ≤ i ∧ Q (.ref S.length) (S ++ [.lst (ds.drop i.toNat)])) := od_ite (z := (.ref S.length, S ++ [.lst (ds.drop i.toNat)])) (by
  rw [op_cutL]
  have e : (ds.drop (clip i ds.length)).take (ds.length - clip i ds.length) = ds.drop i.toNat := by
    unfold clip
    rw [Nat.min_def]
    split
    · rw [List.take_of_length_le (by simp)]
    · rw [List.drop_length, List.drop_of_length_le (by omega)]; simp
  simp [oCutL, cutF, sq_lst h, e])
end
end Mp
/-! The clean text of law k62. -/
namespace Lk62
open PySem Mp
def s0 : List Nat := [48]
def s1 : List Nat := []
def s2 : List Nat := [32]
def s3 : List Nat := [44, 32]
def s4 : List Nat := [108, 105, 110, 101]
def s5 : List Nat := [116, 97, 107, 101]
def s6 : List Nat := [108, 97, 121]
def s7 : List Nat := [112, 117, 116]
def s8 : List Nat := [111, 102, 102]
def s9 : List Nat := [98, 101, 108, 108]
def s10 : List Nat := [100, 101, 97, 108, 32]
def s11 : List Nat := [97, 98, 99, 100, 101, 102, 103, 104, 105, 106, 107, 108, 109, 110, 111, 112, 113, 114, 115, 116, 117, 118, 119, 120, 121, 122]
def s12 : List Nat := [114, 111, 119]
def s13 : List Nat := [98, 101, 104, 105, 110, 100]
def s14 : List Nat := [115, 104, 111, 114, 116]
def s15 : List Nat := [110, 111, 110, 101]
def s16 : List Nat := [109, 111, 115, 116]
def s17 : List Nat := [98, 97, 99, 107]
def s18 : List Nat := [100, 101, 97, 108]
def s19 : List Nat := [97]
def s20 : List Nat := [98]
def s21 : List Nat := [112, 117, 116, 32]
def s22 : List Nat := [111, 102, 102, 32]
def s23 : List Nat := [108, 105, 110, 101, 32]
def s24 : List Nat := [116, 97, 107, 101, 32]
def s25 : List Nat := [108, 97, 121, 32]
def s26 : List Nat := [48, 49, 50, 51, 52, 53, 54, 55, 56, 57]
def s27 : List Nat := [120, 49]
def s28 : List Nat := [49, 10]
def s29 : List Nat := [9, 49]
def s30 : List Nat := [57]
def s31 : List Nat := [49]
def s32 : List Nat := [49, 46, 48]
def s33 : List Nat := [49, 95, 48]
def s34 : List Nat := [45, 49]
def s35 : List Nat := [43, 49]
def s36 : List Nat := [48, 55]
def s37 : List Nat := [48, 48]
def s38 : List Nat := [100, 101, 97, 108, 32, 97]
def s39 : List Nat := [98, 101, 108, 108, 10]
def s40 : List Nat := [66, 101, 108, 108]
def s41 : List Nat := [98, 101, 108, 108, 115]
def s42 : List Nat := [44, 32, 120, 32, 121, 32, 122, 32, 49]
def s43 : List Nat := [97, 98, 99, 100, 101, 102, 103, 104, 105, 106, 107, 108, 109, 110, 111, 112, 113, 114, 115, 116, 117, 118, 119, 120, 121, 122, 123, 124, 125, 126, 10, 9]
def s44 : List Nat := [32, 33, 34, 35, 36, 38, 39, 40, 41, 42, 43, 44, 45, 46, 47, 48, 49, 50, 51, 52, 53, 54, 55, 56, 57, 58, 59, 60, 61, 62, 63, 64, 65, 66, 67, 68, 69, 70, 71, 72, 73, 74, 75, 76, 77, 78, 79, 80, 81, 82, 83, 84, 85, 86, 87, 88, 89, 90, 91, 92, 93, 94, 95, 96]
/-- is_name(thing): 0 thing 1 sign -/
def b_is_name : Cms := (.cons (.ite (.or (.op .bnot (.cons (.op (.isi [.ty .str]) (.cons (.var 0) .nil)) .nil)) (.op .bnot (.cons (.chain .le .le (.cst (.int 1)) (.op .len (.cons (.var 0) .nil)) (.cst (.int 8))) .nil))) (.cons (.ret (.cst (.bl false))) .nil) .nil) (.cons (.for1 1 (.seq (.var 0)) (.cons (.ite (.op .nin (.cons (.var 1) (.cons (.glob 0) .nil))) (.cons (.ret (.cst (.bl false))) .nil) .nil) .nil)) (.cons (.ret (.cst (.bl true))) .nil)))
/-- is_amount(thing): 0 thing -/
def b_is_amount : Cms := (.cons (.ret (.and (.op (.isi [.ty .int]) (.cons (.var 0) .nil)) (.and (.op .bnot (.cons (.op (.isi [.ty .bl]) (.cons (.var 0) .nil)) .nil)) (.chain .le .lt (.cst (.int 1)) (.var 0) (.op .pow (.cons (.cst (.int 10)) (.cons (.cst (.int 60)) .nil))))))) .nil)
/-- is_leg(thing): 0 thing -/
def b_is_leg : Cms := (.cons (.ite (.or (.op .bnot (.cons (.op (.isi [.ty .tup]) (.cons (.var 0) .nil)) .nil)) (.op .ne (.cons (.op .len (.cons (.var 0) .nil)) (.cons (.cst (.int 4)) .nil)))) (.cons (.ret (.cst (.bl false))) .nil) .nil) (.cons (.ite (.or (.op .bnot (.cons (.call 0 (.cons (.op .ix (.cons (.var 0) (.cons (.cst (.int 0)) .nil))) .nil)) .nil)) (.or (.op .bnot (.cons (.call 0 (.cons (.op .ix (.cons (.var 0) (.cons (.cst (.int 1)) .nil))) .nil)) .nil)) (.op .eq (.cons (.op .ix (.cons (.var 0) (.cons (.cst (.int 0)) .nil))) (.cons (.op .ix (.cons (.var 0) (.cons (.cst (.int 1)) .nil))) .nil))))) (.cons (.ret (.cst (.bl false))) .nil) .nil) (.cons (.ret (.and (.call 0 (.cons (.op .ix (.cons (.var 0) (.cons (.cst (.int 2)) .nil))) .nil)) (.call 1 (.cons (.op .ix (.cons (.var 0) (.cons (.cst (.int 3)) .nil))) .nil)))) .nil)))
/-- deal_of(name, legs): 0 name 1 legs 2 leg -/
def b_deal_of : Cms := (.cons (.ite (.op .bnot (.cons (.call 0 (.cons (.var 0) .nil)) .nil)) (.cons (.rais 1) .nil) .nil) (.cons (.ite (.or (.op .bnot (.cons (.op (.isi [.ty .lst]) (.cons (.var 1) .nil)) .nil)) (.op .bnot (.cons (.chain .le .le (.cst (.int 1)) (.op .len (.cons (.var 1) .nil)) (.cst (.int 8))) .nil))) (.cons (.rais 3) .nil) .nil) (.cons (.for1 2 (.seq (.var 1)) (.cons (.ite (.op .bnot (.cons (.call 2 (.cons (.var 2) .nil)) .nil)) (.cons (.rais 3) .nil) .nil) .nil)) (.cons (.ret (.op .tup (.cons (.var 0) (.cons (.op .tupOf (.cons (.var 1) .nil)) .nil)))) .nil))))
/-- name_in(word): 0 word -/
def b_name_in : Cms := (.cons (.ite (.op .bnot (.cons (.call 0 (.cons (.var 0) .nil)) .nil)) (.cons (.rais 9) .nil) .nil) (.cons (.ret (.var 0)) .nil))
/-- number_in(word): 0 word 1 sign -/
def b_number_in : Cms := (.cons (.ite (.or (.op .eq (.cons (.var 0) (.cons (.cst (.str s1)) .nil))) (.op .gt (.cons (.op .len (.cons (.var 0) .nil)) (.cons (.cst (.int 60)) .nil)))) (.cons (.rais 9) .nil) .nil) (.cons (.for1 1 (.seq (.var 0)) (.cons (.ite (.op .nin (.cons (.var 1) (.cons (.glob 1) .nil))) (.cons (.rais 9) .nil) .nil) .nil)) (.cons (.ite (.and (.op .eq (.cons (.op .ix (.cons (.var 0) (.cons (.cst (.int 0)) .nil))) (.cons (.cst (.str s0)) .nil))) (.op .gt (.cons (.op .len (.cons (.var 0) .nil)) (.cons (.cst (.int 1)) .nil)))) (.cons (.rais 9) .nil) .nil) (.cons (.ret (.op .int (.cons (.var 0) .nil))) .nil))))
/-- amount_in(word): 0 word 1 number -/
def b_amount_in : Cms := (.cons (.asg 1 (.call 5 (.cons (.var 0) .nil))) (.cons (.ite (.op .eq (.cons (.var 1) (.cons (.cst (.int 0)) .nil))) (.cons (.rais 9) .nil) .nil) (.cons (.ret (.var 1)) .nil)))
/-- leg_in(text): 0 text 1 words 2 giver 3 taker -/
def b_leg_in : Cms := (.cons (.asg 1 (.bm .split (.var 0) (.cons (.cst (.str s2)) .nil))) (.cons (.ite (.op .ne (.cons (.op .len (.cons (.var 1) .nil)) (.cons (.cst (.int 4)) .nil))) (.cons (.rais 9) .nil) .nil) (.cons (.asg 2 (.call 4 (.cons (.op .ix (.cons (.var 1) (.cons (.cst (.int 0)) .nil))) .nil))) (.cons (.asg 3 (.call 4 (.cons (.op .ix (.cons (.var 1) (.cons (.cst (.int 1)) .nil))) .nil))) (.cons (.ite (.op .eq (.cons (.var 2) (.cons (.var 3) .nil))) (.cons (.rais 9) .nil) .nil) (.cons (.ret (.op .tup (.cons (.var 2) (.cons (.var 3) (.cons (.call 4 (.cons (.op .ix (.cons (.var 1) (.cons (.cst (.int 2)) .nil))) .nil)) (.cons (.call 6 (.cons (.op .ix (.cons (.var 1) (.cons (.cst (.int 3)) .nil))) .nil)) .nil)))))) .nil))))))
/-- offer_in(text): 0 text 1 parts 2 name 3 legs 4 part -/
def b_offer_in : Cms := (.cons (.asg 1 (.bm .partition (.var 0) (.cons (.cst (.str s2)) .nil))) (.cons (.asg 2 (.call 4 (.cons (.op .ix (.cons (.var 1) (.cons (.cst (.int 0)) .nil))) .nil))) (.cons (.asg 3 (.compX (.call 7 (.cons (.var 4) .nil)) 4 (.seq (.bm .split (.op .ix (.cons (.var 1) (.cons (.cst (.int 2)) .nil))) (.cons (.cst (.str s3)) .nil))))) (.cons (.ite (.op .gt (.cons (.op .len (.cons (.var 3) .nil)) (.cons (.cst (.int 8)) .nil))) (.cons (.rais 9) .nil) .nil) (.cons (.ret (.make 16 (.cons (.call 3 (.cons (.var 2) (.cons (.var 3) .nil))) .nil))) .nil)))))
/-- shelf_deed(words): 0 words 1 shelf -/
def b_shelf_deed : Cms := (.cons (.asg 1 (.op .tup (.cons (.call 4 (.cons (.op .ix (.cons (.var 0) (.cons (.cst (.int 1)) .nil))) .nil)) (.cons (.call 4 (.cons (.op .ix (.cons (.var 0) (.cons (.cst (.int 2)) .nil))) .nil)) .nil)))) (.cons (.ite (.op .eq (.cons (.op .ix (.cons (.var 0) (.cons (.cst (.int 0)) .nil))) (.cons (.cst (.str s6)) .nil))) (.cons (.ret (.make 13 (.cons (.var 1) (.cons (.call 6 (.cons (.op .ix (.cons (.var 0) (.cons (.cst (.int 3)) .nil))) .nil)) .nil)))) .nil) .nil) (.cons (.ite (.op .eq (.cons (.op .ix (.cons (.var 0) (.cons (.cst (.int 0)) .nil))) (.cons (.cst (.str s5)) .nil))) (.cons (.ret (.make 14 (.cons (.var 1) (.cons (.call 6 (.cons (.op .ix (.cons (.var 0) (.cons (.cst (.int 3)) .nil))) .nil)) .nil)))) .nil) .nil) (.cons (.ite (.op .eq (.cons (.op .ix (.cons (.var 0) (.cons (.cst (.int 0)) .nil))) (.cons (.cst (.str s4)) .nil))) (.cons (.ret (.make 15 (.cons (.var 1) (.cons (.call 5 (.cons (.op .ix (.cons (.var 0) (.cons (.cst (.int 3)) .nil))) .nil)) .nil)))) .nil) .nil) (.cons (.rais 9) .nil)))))
/-- read(row): 0 row 1 words 2 shelf -/
def b_read : Cms := (.cons (.ite (.op .bnot (.cons (.op (.isi [.ty .str]) (.cons (.var 0) .nil)) .nil)) (.cons (.rais 9) .nil) .nil) (.cons (.ite (.op .eq (.cons (.op .cutH (.cons (.var 0) (.cons (.cst (.int 5)) .nil))) (.cons (.cst (.str s10)) .nil))) (.cons (.ret (.call 8 (.cons (.op .cutL (.cons (.var 0) (.cons (.cst (.int 5)) .nil))) .nil))) .nil) .nil) (.cons (.asg 1 (.bm .split (.var 0) (.cons (.cst (.str s2)) .nil))) (.cons (.ite (.op .eq (.cons (.var 1) (.cons (.op .lst (.cons (.cst (.str s9)) .nil)) .nil))) (.cons (.ret (.make 19 .nil)) .nil) .nil) (.cons (.ite (.and (.op .eq (.cons (.op .ix (.cons (.var 1) (.cons (.cst (.int 0)) .nil))) (.cons (.cst (.str s8)) .nil))) (.op .eq (.cons (.op .len (.cons (.var 1) .nil)) (.cons (.cst (.int 2)) .nil)))) (.cons (.ret (.make 17 (.cons (.call 4 (.cons (.op .ix (.cons (.var 1) (.cons (.cst (.int 1)) .nil))) .nil)) .nil))) .nil) .nil) (.cons (.ite (.and (.op .eq (.cons (.op .ix (.cons (.var 1) (.cons (.cst (.int 0)) .nil))) (.cons (.cst (.str s7)) .nil))) (.op .eq (.cons (.op .len (.cons (.var 1) .nil)) (.cons (.cst (.int 5)) .nil)))) (.cons (.asg 2 (.op .tup (.cons (.call 4 (.cons (.op .ix (.cons (.var 1) (.cons (.cst (.int 1)) .nil))) .nil)) (.cons (.call 4 (.cons (.op .ix (.cons (.var 1) (.cons (.cst (.int 2)) .nil))) .nil)) .nil)))) (.cons (.ret (.make 18 (.cons (.var 2) (.cons (.call 4 (.cons (.op .ix (.cons (.var 1) (.cons (.cst (.int 3)) .nil))) .nil)) (.cons (.call 5 (.cons (.op .ix (.cons (.var 1) (.cons (.cst (.int 4)) .nil))) .nil)) .nil))))) .nil)) .nil) (.cons (.ite (.op .eq (.cons (.op .len (.cons (.var 1) .nil)) (.cons (.cst (.int 4)) .nil))) (.cons (.ret (.call 9 (.cons (.var 1) .nil))) .nil) .nil) (.cons (.rais 9) .nil))))))))
/-- _law_cell_at(script, k): 0 script 1 k -/
def b__law_cell_at : Cms := (.cons (.ite (.op .lt (.cons (.var 1) (.cons (.op .len (.cons (.var 0) .nil)) .nil))) (.cons (.ret (.op .ix (.cons (.var 0) (.cons (.var 1) .nil)))) .nil) .nil) (.cons (.ret (.cst (.int 0))) .nil))
/-- _law_name(cell): 0 cell 1 some 2 number 3 text 4 k -/
def b__law_name : Cms := (.cons (.asg 1 (.op .lst (.cons (.cst (.str s6)) (.cons (.cst (.str s5)) (.cons (.cst (.str s4)) (.cons (.cst (.str s18)) (.cons (.cst (.str s8)) (.cons (.cst (.str s7)) (.cons (.cst (.str s9)) (.cons (.cst (.str s17)) (.cons (.cst (.str s16)) (.cons (.cst (.str s15)) (.cons (.cst (.str s14)) (.cons (.cst (.str s13)) (.cons (.cst (.str s12)) .nil))))))))))))))) (.cons (.ite (.op .eq (.cons (.op .mod (.cons (.var 0) (.cons (.cst (.int 5)) .nil))) (.cons (.cst (.int 1)) .nil))) (.cons (.ret (.op .ix (.cons (.var 1) (.cons (.op .mod (.cons (.op .fdiv (.cons (.var 0) (.cons (.cst (.int 5)) .nil))) (.cons (.cst (.int 13)) .nil))) .nil)))) .nil) .nil) (.cons (.asg 2 (.op .mod (.cons (.var 0) (.cons (.cst (.int 2147483647)) .nil)))) (.cons (.asg 3 (.cst (.str s1))) (.cons (.for1 4 (.rng1 (.op .add (.cons (.cst (.int 1)) (.cons (.op .mod (.cons (.op .fdiv (.cons (.var 2) (.cons (.cst (.int 5)) .nil))) (.cons (.cst (.int 8)) .nil))) .nil)))) (.cons (.asg 2 (.op .mod (.cons (.op .add (.cons (.op .add (.cons (.op .add (.cons (.op .mul (.cons (.var 2) (.cons (.var 2) .nil))) (.cons (.op .mul (.cons (.cst (.int 48271)) (.cons (.var 2) .nil))) .nil))) (.cons (.var 4) .nil))) (.cons (.cst (.int 7)) .nil))) (.cons (.cst (.int 2147483647)) .nil)))) (.cons (.asg 3 (.op .add (.cons (.var 3) (.cons (.op .ix (.cons (.cst (.str s11)) (.cons (.op .mod (.cons (.op .fdiv (.cons (.var 2) (.cons (.cst (.int 64)) .nil))) (.cons (.cst (.int 26)) .nil))) .nil))) .nil)))) .nil))) (.cons (.ret (.var 3)) .nil))))))
/-- _law_amount(cell): 0 cell -/
def b__law_amount : Cms := (.cons (.ite (.op .eq (.cons (.op .mod (.cons (.var 0) (.cons (.cst (.int 4)) .nil))) (.cons (.cst (.int 0)) .nil))) (.cons (.ret (.op .add (.cons (.cst (.int 1)) (.cons (.op .mod (.cons (.op .fdiv (.cons (.var 0) (.cons (.cst (.int 4)) .nil))) (.cons (.cst (.int 9)) .nil))) .nil)))) .nil) .nil) (.cons (.ite (.op .eq (.cons (.op .mod (.cons (.var 0) (.cons (.cst (.int 4)) .nil))) (.cons (.cst (.int 1)) .nil))) (.cons (.ret (.op .sub (.cons (.op .sub (.cons (.op .pow (.cons (.cst (.int 10)) (.cons (.cst (.int 60)) .nil))) (.cons (.cst (.int 1)) .nil))) (.cons (.op .mod (.cons (.op .fdiv (.cons (.var 0) (.cons (.cst (.int 4)) .nil))) (.cons (.cst (.int 9)) .nil))) .nil)))) .nil) .nil) (.cons (.ret (.op .add (.cons (.cst (.int 1)) (.cons (.op .mod (.cons (.op .fdiv (.cons (.var 0) (.cons (.cst (.int 4)) .nil))) (.cons (.op .sub (.cons (.op .pow (.cons (.cst (.int 10)) (.cons (.cst (.int 60)) .nil))) (.cons (.cst (.int 1)) .nil))) .nil))) .nil)))) .nil)))
/-- _law_leg(cell): 0 cell 1 giver 2 taker -/
def b__law_leg : Cms := (.cons (.asg 1 (.call 12 (.cons (.var 0) .nil))) (.cons (.asg 2 (.call 12 (.cons (.op .add (.cons (.op .mul (.cons (.var 0) (.cons (.cst (.int 7)) .nil))) (.cons (.cst (.int 3)) .nil))) .nil))) (.cons (.ite (.and (.op .eq (.cons (.var 1) (.cons (.var 2) .nil))) (.op .eq (.cons (.op .ix (.cons (.var 1) (.cons (.cst (.int 0)) .nil))) (.cons (.cst (.str s19)) .nil)))) (.cons (.asg 2 (.op .add (.cons (.cst (.str s20)) (.cons (.op .cutL (.cons (.var 1) (.cons (.cst (.int 1)) .nil))) .nil)))) .nil) (.cons (.ite (.op .eq (.cons (.var 1) (.cons (.var 2) .nil))) (.cons (.asg 2 (.op .add (.cons (.cst (.str s19)) (.cons (.op .cutL (.cons (.var 1) (.cons (.cst (.int 1)) .nil))) .nil)))) .nil) .nil) .nil)) (.cons (.ret (.op .tup (.cons (.var 1) (.cons (.var 2) (.cons (.call 12 (.cons (.op .add (.cons (.op .mul (.cons (.var 0) (.cons (.cst (.int 11)) .nil))) (.cons (.cst (.int 5)) .nil))) .nil)) (.cons (.call 13 (.cons (.op .fdiv (.cons (.var 0) (.cons (.cst (.int 2)) .nil))) .nil)) .nil)))))) .nil))))
/-- _law_leg_text(leg): 0 leg -/
def b__law_leg_text : Cms := (.cons (.ret (.op .add (.cons (.op .add (.cons (.op .add (.cons (.op .add (.cons (.op .add (.cons (.op .add (.cons (.op .ix (.cons (.var 0) (.cons (.cst (.int 0)) .nil))) (.cons (.cst (.str s2)) .nil))) (.cons (.op .ix (.cons (.var 0) (.cons (.cst (.int 1)) .nil))) .nil))) (.cons (.cst (.str s2)) .nil))) (.cons (.op .ix (.cons (.var 0) (.cons (.cst (.int 2)) .nil))) .nil))) (.cons (.cst (.str s2)) .nil))) (.cons (.op .str1 (.cons (.op .ix (.cons (.var 0) (.cons (.cst (.int 3)) .nil))) .nil)) .nil)))) .nil)
/-- _law_made(head, one, two): 0 head 1 one 2 two 3 kind 4 shelf 5 front 6 amount 7 line 8 legs 9 text 10 name 11 place 12 k 13 leg -/
def b__law_made : Cms := (.cons (.asg 3 (.op .mod (.cons (.var 0) (.cons (.cst (.int 7)) .nil)))) (.cons (.asg 4 (.op .tup (.cons (.call 12 (.cons (.var 1) .nil)) (.cons (.call 12 (.cons (.op .add (.cons (.op .mul (.cons (.var 1) (.cons (.cst (.int 13)) .nil))) (.cons (.cst (.int 2)) .nil))) .nil)) .nil)))) (.cons (.asg 5 (.op .add (.cons (.op .add (.cons (.op .add (.cons (.op .ix (.cons (.var 4) (.cons (.cst (.int 0)) .nil))) (.cons (.cst (.str s2)) .nil))) (.cons (.op .ix (.cons (.var 4) (.cons (.cst (.int 1)) .nil))) .nil))) (.cons (.cst (.str s2)) .nil)))) (.cons (.asg 6 (.call 13 (.cons (.var 2) .nil))) (.cons (.ite (.op .lt (.cons (.var 3) (.cons (.cst (.int 2)) .nil))) (.cons (.ret (.op .tup (.cons (.var 3) (.cons (.op .tup (.cons (.var 4) (.cons (.var 6) .nil))) (.cons (.op .add (.cons (.op .add (.cons (.op .ix (.cons (.op .lst (.cons (.cst (.str s25)) (.cons (.cst (.str s24)) .nil))) (.cons (.var 3) .nil))) (.cons (.var 5) .nil))) (.cons (.op .str1 (.cons (.var 6) .nil)) .nil))) .nil))))) .nil) .nil) (.cons (.ite (.op .eq (.cons (.var 3) (.cons (.cst (.int 2)) .nil))) (.cons (.asg 7 (.op .ix (.cons (.op .lst (.cons (.cst (.int 0)) (.cons (.var 6) .nil))) (.cons (.op .int (.cons (.op .gt (.cons (.op .mod (.cons (.op .fdiv (.cons (.var 2) (.cons (.cst (.int 9)) .nil))) (.cons (.cst (.int 4)) .nil))) (.cons (.cst (.int 0)) .nil))) .nil)) .nil)))) (.cons (.ret (.op .tup (.cons (.var 3) (.cons (.op .tup (.cons (.var 4) (.cons (.var 7) .nil))) (.cons (.op .add (.cons (.op .add (.cons (.cst (.str s23)) (.cons (.var 5) .nil))) (.cons (.op .str1 (.cons (.var 7) .nil)) .nil))) .nil))))) .nil)) .nil) (.cons (.ite (.op .eq (.cons (.var 3) (.cons (.cst (.int 3)) .nil))) (.cons (.asg 8 (.comp (.call 14 (.cons (.op .mod (.cons (.op .add (.cons (.op .add (.cons (.var 2) (.cons (.op .mul (.cons (.op .mul (.cons (.cst (.int 7919)) (.cons (.var 12) .nil))) (.cons (.var 12) .nil))) .nil))) (.cons (.var 12) .nil))) (.cons (.op .pow (.cons (.cst (.int 10)) (.cons (.cst (.int 62)) .nil))) .nil))) .nil)) 12 (.rng1 (.op .add (.cons (.cst (.int 1)) (.cons (.op .mod (.cons (.op .fdiv (.cons (.var 0) (.cons (.cst (.int 7)) .nil))) (.cons (.cst (.int 8)) .nil))) .nil)))))) (.cons (.asg 9 (.op .add (.cons (.op .add (.cons (.op .add (.cons (.cst (.str s10)) (.cons (.op .ix (.cons (.var 4) (.cons (.cst (.int 0)) .nil))) .nil))) (.cons (.cst (.str s2)) .nil))) (.cons (.bm .join (.cst (.str s3)) (.cons (.comp (.call 15 (.cons (.var 13) .nil)) 13 (.seq (.var 8))) .nil)) .nil)))) (.cons (.ret (.op .tup (.cons (.var 3) (.cons (.op .tup (.cons (.op .tup (.cons (.op .ix (.cons (.var 4) (.cons (.cst (.int 0)) .nil))) (.cons (.op .tupOf (.cons (.var 8) .nil)) .nil))) .nil)) (.cons (.var 9) .nil))))) .nil))) .nil) (.cons (.ite (.op .eq (.cons (.var 3) (.cons (.cst (.int 4)) .nil))) (.cons (.ret (.op .tup (.cons (.var 3) (.cons (.op .tup (.cons (.op .ix (.cons (.var 4) (.cons (.cst (.int 0)) .nil))) .nil)) (.cons (.op .add (.cons (.cst (.str s22)) (.cons (.op .ix (.cons (.var 4) (.cons (.cst (.int 0)) .nil))) .nil))) .nil))))) .nil) .nil) (.cons (.ite (.op .eq (.cons (.var 3) (.cons (.cst (.int 5)) .nil))) (.cons (.asg 10 (.call 12 (.cons (.var 2) .nil))) (.cons (.asg 11 (.op .ix (.cons (.op .lst (.cons (.op .mod (.cons (.op .fdiv (.cons (.var 0) (.cons (.cst (.int 7)) .nil))) (.cons (.cst (.int 12)) .nil))) (.cons (.op .mod (.cons (.op .fdiv (.cons (.var 0) (.cons (.cst (.int 28)) .nil))) (.cons (.op .pow (.cons (.cst (.int 10)) (.cons (.cst (.int 60)) .nil))) .nil))) .nil))) (.cons (.op .fdiv (.cons (.op .mod (.cons (.op .fdiv (.cons (.var 0) (.cons (.cst (.int 7)) .nil))) (.cons (.cst (.int 4)) .nil))) (.cons (.cst (.int 3)) .nil))) .nil)))) (.cons (.ret (.op .tup (.cons (.var 3) (.cons (.op .tup (.cons (.var 4) (.cons (.var 10) (.cons (.var 11) .nil)))) (.cons (.op .add (.cons (.op .add (.cons (.op .add (.cons (.op .add (.cons (.cst (.str s21)) (.cons (.var 5) .nil))) (.cons (.var 10) .nil))) (.cons (.cst (.str s2)) .nil))) (.cons (.op .str1 (.cons (.var 11) .nil)) .nil))) .nil))))) .nil))) .nil) (.cons (.ret (.op .tup (.cons (.var 3) (.cons (.op .tup .nil) (.cons (.cst (.str s9)) .nil))))) .nil))))))))))
/-- _law_word(word): 0 word 1 sign -/
def b__law_word : Cms := (.cons (.for1 1 (.seq (.var 0)) (.cons (.ite (.op .nin (.cons (.var 1) (.cons (.cst (.str s11)) .nil))) (.cons (.ret (.cst (.bl false))) .nil) .nil) .nil)) (.cons (.ret (.and (.op .ge (.cons (.op .len (.cons (.var 0) .nil)) (.cons (.cst (.int 1)) .nil))) (.op .le (.cons (.op .len (.cons (.var 0) .nil)) (.cons (.cst (.int 8)) .nil))))) .nil))
/-- _law_figures(word, bottom): 0 word 1 bottom 2 sign -/
def b__law_figures : Cms := (.cons (.ite (.or (.op .eq (.cons (.var 0) (.cons (.cst (.str s1)) .nil))) (.or (.op .gt (.cons (.op .len (.cons (.var 0) .nil)) (.cons (.cst (.int 60)) .nil))) (.op .eq (.cons (.var 0) (.cons (.cst (.str s0)) .nil))))) (.cons (.ret (.and (.op .eq (.cons (.var 0) (.cons (.cst (.str s0)) .nil))) (.op .eq (.cons (.var 1) (.cons (.cst (.int 0)) .nil))))) .nil) .nil) (.cons (.for1 2 (.seq (.var 0)) (.cons (.ite (.op .nin (.cons (.var 2) (.cons (.cst (.str s26)) .nil))) (.cons (.ret (.cst (.bl false))) .nil) .nil) .nil)) (.cons (.ret (.op .ne (.cons (.op .ix (.cons (.var 0) (.cons (.cst (.int 0)) .nil))) (.cons (.cst (.str s0)) .nil)))) .nil)))
/-- _law_is_leg(text): 0 text 1 words -/
def b__law_is_leg : Cms := (.cons (.asg 1 (.bm .split (.var 0) (.cons (.cst (.str s2)) .nil))) (.cons (.ite (.or (.op .ne (.cons (.op .len (.cons (.var 1) .nil)) (.cons (.cst (.int 4)) .nil))) (.or (.op .bnot (.cons (.call 17 (.cons (.op .ix (.cons (.var 1) (.cons (.cst (.int 0)) .nil))) .nil)) .nil)) (.or (.op .bnot (.cons (.call 17 (.cons (.op .ix (.cons (.var 1) (.cons (.cst (.int 1)) .nil))) .nil)) .nil)) (.op .bnot (.cons (.call 17 (.cons (.op .ix (.cons (.var 1) (.cons (.cst (.int 2)) .nil))) .nil)) .nil))))) (.cons (.ret (.cst (.bl false))) .nil) .nil) (.cons (.ret (.and (.op .ne (.cons (.op .ix (.cons (.var 1) (.cons (.cst (.int 0)) .nil))) (.cons (.op .ix (.cons (.var 1) (.cons (.cst (.int 1)) .nil))) .nil))) (.call 18 (.cons (.op .ix (.cons (.var 1) (.cons (.cst (.int 3)) .nil))) (.cons (.cst (.int 1)) .nil))))) .nil)))
/-- _law_is_deal(words): 0 words 1 legs 2 leg -/
def b__law_is_deal : Cms := (.cons (.ite (.or (.op .lt (.cons (.op .len (.cons (.var 0) .nil)) (.cons (.cst (.int 3)) .nil))) (.op .bnot (.cons (.call 17 (.cons (.op .ix (.cons (.var 0) (.cons (.cst (.int 1)) .nil))) .nil)) .nil))) (.cons (.ret (.cst (.bl false))) .nil) .nil) (.cons (.asg 1 (.bm .split (.bm .join (.cst (.str s2)) (.cons (.op .cutL (.cons (.var 0) (.cons (.cst (.int 2)) .nil))) .nil)) (.cons (.cst (.str s3)) .nil))) (.cons (.for1 2 (.seq (.var 1)) (.cons (.ite (.op .bnot (.cons (.call 19 (.cons (.var 2) .nil)) .nil)) (.cons (.ret (.cst (.bl false))) .nil) .nil) .nil)) (.cons (.ret (.op .le (.cons (.op .len (.cons (.var 1) .nil)) (.cons (.cst (.int 8)) .nil)))) .nil))))
/-- _law_good(row): 0 row 1 words -/
def b__law_good : Cms := (.cons (.ite (.op .bnot (.cons (.op (.isi [.ty .str]) (.cons (.var 0) .nil)) .nil)) (.cons (.ret (.cst (.bl false))) .nil) .nil) (.cons (.asg 1 (.bm .split (.var 0) (.cons (.cst (.str s2)) .nil))) (.cons (.ite (.op .eq (.cons (.op .ix (.cons (.var 1) (.cons (.cst (.int 0)) .nil))) (.cons (.cst (.str s18)) .nil))) (.cons (.ret (.call 20 (.cons (.var 1) .nil))) .nil) .nil) (.cons (.ite (.op .eq (.cons (.op .ix (.cons (.var 1) (.cons (.cst (.int 0)) .nil))) (.cons (.cst (.str s8)) .nil))) (.cons (.ret (.and (.op .eq (.cons (.op .len (.cons (.var 1) .nil)) (.cons (.cst (.int 2)) .nil))) (.call 17 (.cons (.op .ix (.cons (.var 1) (.cons (.cst (.int 1)) .nil))) .nil)))) .nil) .nil) (.cons (.ite (.op .eq (.cons (.op .ix (.cons (.var 1) (.cons (.cst (.int 0)) .nil))) (.cons (.cst (.str s7)) .nil))) (.cons (.ite (.or (.op .ne (.cons (.op .len (.cons (.var 1) .nil)) (.cons (.cst (.int 5)) .nil))) (.or (.op .bnot (.cons (.call 17 (.cons (.op .ix (.cons (.var 1) (.cons (.cst (.int 1)) .nil))) .nil)) .nil)) (.op .bnot (.cons (.call 17 (.cons (.op .ix (.cons (.var 1) (.cons (.cst (.int 2)) .nil))) .nil)) .nil)))) (.cons (.ret (.cst (.bl false))) .nil) .nil) (.cons (.ret (.and (.call 17 (.cons (.op .ix (.cons (.var 1) (.cons (.cst (.int 3)) .nil))) .nil)) (.call 18 (.cons (.op .ix (.cons (.var 1) (.cons (.cst (.int 4)) .nil))) (.cons (.cst (.int 0)) .nil))))) .nil)) .nil) (.cons (.ite (.op .inn (.cons (.op .ix (.cons (.var 1) (.cons (.cst (.int 0)) .nil))) (.cons (.op .lst (.cons (.cst (.str s6)) (.cons (.cst (.str s5)) (.cons (.cst (.str s4)) .nil)))) .nil))) (.cons (.ite (.or (.op .ne (.cons (.op .len (.cons (.var 1) .nil)) (.cons (.cst (.int 4)) .nil))) (.or (.op .bnot (.cons (.call 17 (.cons (.op .ix (.cons (.var 1) (.cons (.cst (.int 1)) .nil))) .nil)) .nil)) (.op .bnot (.cons (.call 17 (.cons (.op .ix (.cons (.var 1) (.cons (.cst (.int 2)) .nil))) .nil)) .nil)))) (.cons (.ret (.cst (.bl false))) .nil) .nil) (.cons (.ret (.call 18 (.cons (.op .ix (.cons (.var 1) (.cons (.cst (.int 3)) .nil))) (.cons (.op .int (.cons (.op .ne (.cons (.op .ix (.cons (.var 1) (.cons (.cst (.int 0)) .nil))) (.cons (.cst (.str s4)) .nil))) .nil)) .nil)))) .nil)) .nil) (.cons (.ret (.op .eq (.cons (.var 0) (.cons (.cst (.str s9)) .nil)))) .nil)))))))
/-- _law_signs(text, place, sign, way): 0 text 1 place 2 sign 3 way -/
def b__law_signs : Cms := (.cons (.ite (.op .eq (.cons (.var 3) (.cons (.cst (.int 0)) .nil))) (.cons (.ret (.op .add (.cons (.op .add (.cons (.op .cutH (.cons (.var 0) (.cons (.var 1) .nil))) (.cons (.var 2) .nil))) (.cons (.op .cutL (.cons (.var 0) (.cons (.var 1) .nil))) .nil)))) .nil) .nil) (.cons (.ite (.op .eq (.cons (.var 3) (.cons (.cst (.int 1)) .nil))) (.cons (.ret (.op .add (.cons (.op .cutH (.cons (.var 0) (.cons (.var 1) .nil))) (.cons (.op .cutL (.cons (.var 0) (.cons (.op .add (.cons (.var 1) (.cons (.cst (.int 1)) .nil))) .nil))) .nil)))) .nil) .nil) (.cons (.ite (.op .eq (.cons (.var 3) (.cons (.cst (.int 2)) .nil))) (.cons (.ret (.op .add (.cons (.op .add (.cons (.op .cutH (.cons (.var 0) (.cons (.var 1) .nil))) (.cons (.var 2) .nil))) (.cons (.op .cutL (.cons (.var 0) (.cons (.op .add (.cons (.var 1) (.cons (.cst (.int 1)) .nil))) .nil))) .nil)))) .nil) .nil) (.cons (.ret (.op .add (.cons (.op .cutH (.cons (.var 0) (.cons (.var 1) .nil))) (.cons (.bm .upper (.op .cutL (.cons (.var 0) (.cons (.var 1) .nil))) .nil) .nil)))) .nil))))
/-- _law_words(text, place, rest, way): 0 text 1 place 2 rest 3 way 4 words 5 k 6 some -/
def b__law_words : Cms := (.cons (.asg 4 (.bm .split (.var 0) (.cons (.cst (.str s2)) .nil))) (.cons (.asg 5 (.op .mod (.cons (.var 1) (.cons (.op .len (.cons (.var 4) .nil)) .nil)))) (.cons (.ite (.op .eq (.cons (.var 3) (.cons (.cst (.int 4)) .nil))) (.cons (.asg 4 (.op .add (.cons (.op .cutH (.cons (.var 4) (.cons (.var 5) .nil))) (.cons (.op .cutL (.cons (.var 4) (.cons (.op .add (.cons (.var 5) (.cons (.cst (.int 1)) .nil))) .nil))) .nil)))) .nil) .nil) (.cons (.ite (.op .eq (.cons (.var 3) (.cons (.cst (.int 5)) .nil))) (.cons (.asg 4 (.op .add (.cons (.op .add (.cons (.op .cutH (.cons (.var 4) (.cons (.var 5) .nil))) (.cons (.op .lst (.cons (.op .ix (.cons (.var 4) (.cons (.var 5) .nil))) .nil)) .nil))) (.cons (.op .cutL (.cons (.var 4) (.cons (.var 5) .nil))) .nil)))) .nil) .nil) (.cons (.ite (.op .eq (.cons (.var 3) (.cons (.cst (.int 6)) .nil))) (.cons (.setX (.var 4) (.var 5) (.op .ix (.cons (.var 4) (.cons (.op .sub (.cons (.var 5) (.cons (.cst (.int 1)) .nil))) .nil)))) .nil) .nil) (.cons (.ite (.op .eq (.cons (.var 3) (.cons (.cst (.int 7)) .nil))) (.cons (.asg 6 (.op .lst (.cons (.cst (.str s0)) (.cons (.cst (.str s37)) (.cons (.cst (.str s36)) (.cons (.cst (.str s35)) (.cons (.cst (.str s34)) (.cons (.cst (.str s33)) (.cons (.cst (.str s1)) (.cons (.cst (.str s32)) (.cons (.op .add (.cons (.cst (.str s31)) (.cons (.op .mul (.cons (.cst (.str s0)) (.cons (.cst (.int 60)) .nil))) .nil))) (.cons (.op .mul (.cons (.cst (.str s30)) (.cons (.cst (.int 60)) .nil))) .nil)))))))))))) (.cons (.asg 6 (.op .add (.cons (.var 6) (.cons (.op .lst (.cons (.op .mul (.cons (.cst (.str s30)) (.cons (.cst (.int 61)) .nil))) (.cons (.cst (.str s29)) (.cons (.cst (.str s28)) (.cons (.cst (.str s27)) .nil))))) .nil)))) (.cons (.setX (.var 4) (.op .sub (.cons (.op .sub (.cons (.op .len (.cons (.var 4) .nil)) (.cons (.cst (.int 1)) .nil))) (.cons (.op .fdiv (.cons (.var 5) (.cons (.cst (.int 2)) .nil))) .nil))) (.op .ix (.cons (.var 6) (.cons (.op .mod (.cons (.var 2) (.cons (.cst (.int 14)) .nil))) .nil)))) .nil))) .nil) (.cons (.ret (.bm .join (.cst (.str s2)) (.cons (.var 4) .nil))) .nil)))))))
/-- _law_spoiled(text, cell): 0 text 1 cell 2 signs 3 number 4 way 5 place 6 rest 7 some -/
def b__law_spoiled : Cms := (.cons (.asg 2 (.cst (.str s44))) (.cons (.asg 2 (.op .add (.cons (.var 2) (.cons (.cst (.str s43)) .nil)))) (.cons (.asg 3 (.op .mod (.cons (.op .add (.cons (.op .mul (.cons (.op .mod (.cons (.var 1) (.cons (.cst (.int 2147483629)) .nil))) (.cons (.cst (.int 69621)) .nil))) (.cons (.cst (.int 5)) .nil))) (.cons (.cst (.int 2147483629)) .nil)))) (.cons (.asg 4 (.op .mod (.cons (.var 3) (.cons (.cst (.int 10)) .nil)))) (.cons (.asg 5 (.op .mod (.cons (.op .fdiv (.cons (.var 3) (.cons (.cst (.int 10)) .nil))) (.cons (.op .add (.cons (.op .len (.cons (.var 0) .nil)) (.cons (.cst (.int 1)) .nil))) .nil)))) (.cons (.asg 6 (.op .fdiv (.cons (.var 3) (.cons (.cst (.int 7919)) .nil)))) (.cons (.ite (.op .lt (.cons (.var 4) (.cons (.cst (.int 4)) .nil))) (.cons (.ret (.call 22 (.cons (.var 0) (.cons (.var 5) (.cons (.op .ix (.cons (.var 2) (.cons (.op .mod (.cons (.var 6) (.cons (.op .len (.cons (.var 2) .nil)) .nil))) .nil))) (.cons (.var 4) .nil)))))) .nil) .nil) (.cons (.ite (.op .lt (.cons (.var 4) (.cons (.cst (.int 8)) .nil))) (.cons (.ret (.call 23 (.cons (.var 0) (.cons (.var 5) (.cons (.var 6) (.cons (.var 4) .nil)))))) .nil) .nil) (.cons (.ite (.op .eq (.cons (.var 4) (.cons (.cst (.int 8)) .nil))) (.cons (.ret (.op .add (.cons (.var 0) (.cons (.op .mul (.cons (.cst (.str s42)) (.cons (.op .add (.cons (.cst (.int 1)) (.cons (.op .mod (.cons (.var 6) (.cons (.cst (.int 8)) .nil))) .nil))) .nil))) .nil)))) .nil) .nil) (.cons (.asg 7 (.op .lst (.cons (.cst .non) (.cons (.cst (.int 5)) (.cons (.cst (.bl true)) (.cons (.op .lst (.cons (.var 0) .nil)) (.cons (.op .tup (.cons (.var 0) .nil)) (.cons (.op .dnT .nil) (.cons (.cst (.str s1)) (.cons (.cst (.str s2)) (.cons (.cst (.str s41)) (.cons (.cst (.str s40)) (.cons (.cst (.str s39)) .nil))))))))))))) (.cons (.asg 7 (.op .add (.cons (.var 7) (.cons (.op .lst (.cons (.cst (.str s18)) (.cons (.cst (.str s38)) (.cons (.cst (.str s8)) (.cons (.cst (.str s7)) .nil))))) .nil)))) (.cons (.ret (.op .ix (.cons (.var 7) (.cons (.op .mod (.cons (.var 6) (.cons (.cst (.int 15)) .nil))) .nil)))) .nil))))))))))))
/-- _law_told(row): 0 row 1 found 2 kinds 3 e -/
def b__law_told : Cms := (.cons (.asg 1 (.cst .non)) (.cons (.asg 2 (.cst .non)) (.cons (.tryC (.asg 1 (.call 10 (.cons (.var 0) .nil))) 0 3 (.cons (.asg 2 (.op .lst (.cons (.isE [(.own 9)]) (.cons (.isE [.valErr]) (.cons (.isE [(.own 1), (.own 2), (.own 3), (.own 4)]) (.cons (.isE [(.own 5), (.own 6), (.own 7), (.own 8), (.own 10)]) .nil)))))) .nil)) (.cons (.ret (.op .tup (.cons (.var 1) (.cons (.var 2) .nil)))) .nil))))
/-- law(script): 0 script 1 k 2 cells 3 row 4 found 5 kinds 6 j -/
def b_law : Cms := (.cons (.for1 1 (.rng3 (.cst (.int 0)) (.op .min2 (.cons (.op .len (.cons (.var 0) .nil)) (.cons (.cst (.int 63)) .nil))) (.cst (.int 4))) (.cons (.asg 2 (.comp (.op .mod (.cons (.call 11 (.cons (.var 0) (.cons (.op .add (.cons (.var 1) (.cons (.var 6) .nil))) .nil))) (.cons (.op .pow (.cons (.cst (.int 10)) (.cons (.cst (.int 62)) .nil))) .nil))) 6 (.rng1 (.cst (.int 4))))) (.cons (.asg 3 (.call 24 (.cons (.op .ix (.cons (.call 16 (.cons (.op .ix (.cons (.var 2) (.cons (.cst (.int 0)) .nil))) (.cons (.op .ix (.cons (.var 2) (.cons (.cst (.int 1)) .nil))) (.cons (.op .ix (.cons (.var 2) (.cons (.cst (.int 2)) .nil))) .nil)))) (.cons (.cst (.int 2)) .nil))) (.cons (.op .ix (.cons (.var 2) (.cons (.cst (.int 3)) .nil))) .nil)))) (.cons (.asgT [4, 5] (.call 25 (.cons (.var 3) .nil))) (.cons (.ite (.op .bnot (.cons (.call 21 (.cons (.var 3) .nil)) .nil)) (.cons (.ite (.op .ne (.cons (.var 5) (.cons (.op .lst (.cons (.cst (.bl true)) (.cons (.cst (.bl true)) (.cons (.cst (.bl false)) (.cons (.cst (.bl false)) .nil))))) .nil))) (.cons (.ret (.cst (.bl false))) .nil) .nil) .nil) (.cons (.ite (.or (.op .notN (.cons (.var 5) .nil)) (.op .ne (.cons (.meth 0 (.var 4) .nil) (.cons (.var 3) .nil)))) (.cons (.ret (.cst (.bl false))) .nil) .nil) .nil)) .nil))))) (.cons (.ret (.cst (.bl true))) .nil))
/-- Lay.__init__(self, shelf, amount): 0 self 1 shelf 2 amount -/
def b_Lay___init__ : Cms := (.cons (.setA (.var 0) 1 (.var 1)) (.cons (.setA (.var 0) 2 (.var 2)) .nil))
/-- Lay.row(self): 0 self -/
def b_Lay_row : Cms := (.cons (.ret (.op .add (.cons (.op .add (.cons (.op .add (.cons (.cst (.str s25)) (.cons (.bm .join (.cst (.str s2)) (.cons (.op (.attr 1) (.cons (.var 0) .nil)) .nil)) .nil))) (.cons (.cst (.str s2)) .nil))) (.cons (.op .str1 (.cons (.op (.attr 2) (.cons (.var 0) .nil)) .nil)) .nil)))) .nil)
/-- Take.__init__(self, shelf, amount): 0 self 1 shelf 2 amount -/
def b_Take___init__ : Cms := (.cons (.setA (.var 0) 1 (.var 1)) (.cons (.setA (.var 0) 2 (.var 2)) .nil))
/-- Take.row(self): 0 self -/
def b_Take_row : Cms := (.cons (.ret (.op .add (.cons (.op .add (.cons (.op .add (.cons (.cst (.str s24)) (.cons (.bm .join (.cst (.str s2)) (.cons (.op (.attr 1) (.cons (.var 0) .nil)) .nil)) .nil))) (.cons (.cst (.str s2)) .nil))) (.cons (.op .str1 (.cons (.op (.attr 2) (.cons (.var 0) .nil)) .nil)) .nil)))) .nil)
/-- Line.__init__(self, shelf, line): 0 self 1 shelf 2 line -/
def b_Line___init__ : Cms := (.cons (.setA (.var 0) 1 (.var 1)) (.cons (.setA (.var 0) 3 (.var 2)) .nil))
/-- Line.row(self): 0 self -/
def b_Line_row : Cms := (.cons (.ret (.op .add (.cons (.op .add (.cons (.op .add (.cons (.cst (.str s23)) (.cons (.bm .join (.cst (.str s2)) (.cons (.op (.attr 1) (.cons (.var 0) .nil)) .nil)) .nil))) (.cons (.cst (.str s2)) .nil))) (.cons (.op .str1 (.cons (.op (.attr 3) (.cons (.var 0) .nil)) .nil)) .nil)))) .nil)
/-- Offer.__init__(self, deal): 0 self 1 deal -/
def b_Offer___init__ : Cms := (.cons (.setA (.var 0) 4 (.var 1)) .nil)
/-- Offer.row(self): 0 self 1 legs 2 leg -/
def b_Offer_row : Cms := (.cons (.asg 1 (.comp (.op .add (.cons (.op .add (.cons (.bm .join (.cst (.str s2)) (.cons (.op .cutH (.cons (.var 2) (.cons (.cst (.int 3)) .nil))) .nil)) (.cons (.cst (.str s2)) .nil))) (.cons (.op .str1 (.cons (.op .ix (.cons (.var 2) (.cons (.cst (.int 3)) .nil))) .nil)) .nil))) 2 (.seq (.op .ix (.cons (.op (.attr 4) (.cons (.var 0) .nil)) (.cons (.cst (.int 1)) .nil)))))) (.cons (.ret (.op .add (.cons (.op .add (.cons (.op .add (.cons (.cst (.str s10)) (.cons (.op .ix (.cons (.op (.attr 4) (.cons (.var 0) .nil)) (.cons (.cst (.int 0)) .nil))) .nil))) (.cons (.cst (.str s2)) .nil))) (.cons (.bm .join (.cst (.str s3)) (.cons (.var 1) .nil)) .nil)))) .nil))
/-- Off.__init__(self, name): 0 self 1 name -/
def b_Off___init__ : Cms := (.cons (.setA (.var 0) 5 (.var 1)) .nil)
/-- Off.row(self): 0 self -/
def b_Off_row : Cms := (.cons (.ret (.op .add (.cons (.cst (.str s22)) (.cons (.op (.attr 5) (.cons (.var 0) .nil)) .nil)))) .nil)
/-- Put.__init__(self, shelf, name, place): 0 self 1 shelf 2 name 3 place -/
def b_Put___init__ : Cms := (.cons (.setA (.var 0) 1 (.var 1)) (.cons (.setA (.var 0) 5 (.var 2)) (.cons (.setA (.var 0) 6 (.var 3)) .nil)))
/-- Put.row(self): 0 self -/
def b_Put_row : Cms := (.cons (.ret (.op .add (.cons (.op .add (.cons (.op .add (.cons (.op .add (.cons (.op .add (.cons (.cst (.str s21)) (.cons (.bm .join (.cst (.str s2)) (.cons (.op (.attr 1) (.cons (.var 0) .nil)) .nil)) .nil))) (.cons (.cst (.str s2)) .nil))) (.cons (.op (.attr 5) (.cons (.var 0) .nil)) .nil))) (.cons (.cst (.str s2)) .nil))) (.cons (.op .str1 (.cons (.op (.attr 6) (.cons (.var 0) .nil)) .nil)) .nil)))) .nil)
/-- Bell.row(self): 0 self -/
def b_Bell_row : Cms := (.cons (.ret (.cst (.str s9))) .nil)
def TT : Tab where
  con := fun g => match g with
    | 0 => some (.str s11)
    | 1 => some (.str s26)
    | _ => none
  ini := fun k => match k with | 13 => some 27 | 14 => some 29 | 15 => some 31 | 16 => some 33 | 17 => some 35 | 18 => some 37 | _ => none
  met := fun k m => match k, m with | 13, 0 => some 28 | 14, 0 => some 30 | 15, 0 => some 32 | 16, 0 => some 34 | 17, 0 => some 36 | 18, 0 => some 38 | 19, 0 => some 39 | _, _ => none
  sub := fun k j => ([(0, 0), (1, 1), (1, 0), (2, 2), (2, 0), (3, 3), (3, 0), (4, 4), (4, 0), (5, 5), (5, 0), (6, 6), (6, 0), (7, 7), (7, 0), (8, 8), (8, 0), (9, 9), (9, 0), (10, 10), (10, 0), (11, 11), (12, 12), (13, 13), (13, 12), (14, 14), (14, 12), (15, 15), (15, 12), (16, 16), (16, 12), (17, 17), (17, 12), (18, 18), (18, 12), (19, 19), (19, 12)] : List (Nat × Nat)).contains (k, j)
  exc := fun _ => false
def FT : Nat → Option Df := fun f => match f with
  | 0 => some ⟨1, 2, b_is_name⟩
  | 1 => some ⟨1, 1, b_is_amount⟩
  | 2 => some ⟨1, 1, b_is_leg⟩
  | 3 => some ⟨2, 3, b_deal_of⟩
  | 4 => some ⟨1, 1, b_name_in⟩
  | 5 => some ⟨1, 2, b_number_in⟩
  | 6 => some ⟨1, 2, b_amount_in⟩
  | 7 => some ⟨1, 4, b_leg_in⟩
  | 8 => some ⟨1, 5, b_offer_in⟩
  | 9 => some ⟨1, 2, b_shelf_deed⟩
  | 10 => some ⟨1, 3, b_read⟩
  | 11 => some ⟨2, 2, b__law_cell_at⟩
  | 12 => some ⟨1, 5, b__law_name⟩
  | 13 => some ⟨1, 1, b__law_amount⟩
  | 14 => some ⟨1, 3, b__law_leg⟩
  | 15 => some ⟨1, 1, b__law_leg_text⟩
  | 16 => some ⟨3, 14, b__law_made⟩
  | 17 => some ⟨1, 2, b__law_word⟩
  | 18 => some ⟨2, 3, b__law_figures⟩
  | 19 => some ⟨1, 2, b__law_is_leg⟩
  | 20 => some ⟨1, 3, b__law_is_deal⟩
  | 21 => some ⟨1, 2, b__law_good⟩
  | 22 => some ⟨4, 4, b__law_signs⟩
  | 23 => some ⟨4, 7, b__law_words⟩
  | 24 => some ⟨2, 8, b__law_spoiled⟩
  | 25 => some ⟨1, 4, b__law_told⟩
  | 26 => some ⟨1, 7, b_law⟩
  | 27 => some ⟨3, 3, b_Lay___init__⟩
  | 28 => some ⟨1, 1, b_Lay_row⟩
  | 29 => some ⟨3, 3, b_Take___init__⟩
  | 30 => some ⟨1, 1, b_Take_row⟩
  | 31 => some ⟨3, 3, b_Line___init__⟩
  | 32 => some ⟨1, 1, b_Line_row⟩
  | 33 => some ⟨2, 2, b_Offer___init__⟩
  | 34 => some ⟨1, 3, b_Offer_row⟩
  | 35 => some ⟨2, 2, b_Off___init__⟩
  | 36 => some ⟨1, 1, b_Off_row⟩
  | 37 => some ⟨4, 4, b_Put___init__⟩
  | 38 => some ⟨1, 1, b_Put_row⟩
  | 39 => some ⟨1, 1, b_Bell_row⟩
  | _ => none
end Lk62
namespace Lk62
open PySem Mp
abbrev T60 : Int := 1000000000000000000000000000000000000000000000000000000000000
variable {Q : PQ} {EX : PX} {S S0 : Sto} {d x y : D} {n : Nat} {a b : List Nat} {i j : Int}
abbrev Kc (Q : PQ) : Kt := { nx := fun _ S' => Q .non S', rt := Q, bk := fun _ _ => False, ct := fun _ _ => False }
theorem call_is_name {x0 : D} : wpCall TT FT (n + 1) 0 [x0] S Q EX = (1 = 1 ∧ wpCs TT (wpCall TT FT n) none b_is_name [some x0, none] S (Kc Q) EX) := rfl
theorem call_is_amount {x0 : D} : wpCall TT FT (n + 1) 1 [x0] S Q EX = (1 = 1 ∧ wpCs TT (wpCall TT FT n) none b_is_amount [some x0] S (Kc Q) EX) := rfl
theorem call_is_leg {x0 : D} : wpCall TT FT (n + 1) 2 [x0] S Q EX = (1 = 1 ∧ wpCs TT (wpCall TT FT n) none b_is_leg [some x0] S (Kc Q) EX) := rfl
theorem call_deal_of {x0 x1 : D} : wpCall TT FT (n + 1) 3 [x0, x1] S Q EX = (2 = 2 ∧ wpCs TT (wpCall TT FT n) none b_deal_of [some x0, some x1, none] S (Kc Q) EX) := rfl
theorem call_name_in {x0 : D} : wpCall TT FT (n + 1) 4 [x0] S Q EX = (1 = 1 ∧ wpCs TT (wpCall TT FT n) none b_name_in [some x0] S (Kc Q) EX) := rfl
theorem call_number_in {x0 : D} : wpCall TT FT (n + 1) 5 [x0] S Q EX = (1 = 1 ∧ wpCs TT (wpCall TT FT n) none b_number_in [some x0, none] S (Kc Q) EX) := rfl
theorem call_amount_in {x0 : D} : wpCall TT FT (n + 1) 6 [x0] S Q EX = (1 = 1 ∧ wpCs TT (wpCall TT FT n) none b_amount_in [some x0, none] S (Kc Q) EX) := rfl
theorem call_leg_in {x0 : D} : wpCall TT FT (n + 1) 7 [x0] S Q EX = (1 = 1 ∧ wpCs TT (wpCall TT FT n) none b_leg_in [some x0, none, none, none] S (Kc Q) EX) := rfl
theorem call_offer_in {x0 : D} : wpCall TT FT (n + 1) 8 [x0] S Q EX = (1 = 1 ∧ wpCs TT (wpCall TT FT n) none b_offer_in [some x0, none, none, none, none] S (Kc Q) EX) := rfl
theorem call_shelf_deed {x0 : D} : wpCall TT FT (n + 1) 9 [x0] S Q EX = (1 = 1 ∧ wpCs TT (wpCall TT FT n) none b_shelf_deed [some x0, none] S (Kc Q) EX) := rfl
theorem call_read {x0 : D} : wpCall TT FT (n + 1) 10 [x0] S Q EX = (1 = 1 ∧ wpCs TT (wpCall TT FT n) none b_read [some x0, none, none] S (Kc Q) EX) := rfl
theorem call__law_cell_at {x0 x1 : D} : wpCall TT FT (n + 1) 11 [x0, x1] S Q EX = (2 = 2 ∧ wpCs TT (wpCall TT FT n) none b__law_cell_at [some x0, some x1] S (Kc Q) EX) := rfl
theorem call__law_name {x0 : D} : wpCall TT FT (n + 1) 12 [x0] S Q EX = (1 = 1 ∧ wpCs TT (wpCall TT FT n) none b__law_name [some x0, none, none, none, none] S (Kc Q) EX) := rfl
theorem call__law_amount {x0 : D} : wpCall TT FT (n + 1) 13 [x0] S Q EX = (1 = 1 ∧ wpCs TT (wpCall TT FT n) none b__law_amount [some x0] S (Kc Q) EX) := rfl
theorem call__law_leg {x0 : D} : wpCall TT FT (n + 1) 14 [x0] S Q EX = (1 = 1 ∧ wpCs TT (wpCall TT FT n) none b__law_leg [some x0, none, none] S (Kc Q) EX) := rfl
theorem call__law_leg_text {x0 : D} : wpCall TT FT (n + 1) 15 [x0] S Q EX = (1 = 1 ∧ wpCs TT (wpCall TT FT n) none b__law_leg_text [some x0] S (Kc Q) EX) := rfl
theorem call__law_made {x0 x1 x2 : D} : wpCall TT FT (n + 1) 16 [x0, x1, x2] S Q EX = (3 = 3 ∧ wpCs TT (wpCall TT FT n) none b__law_made [some x0, some x1, some x2, none, none, none, none, none, none, none, none, none, none, none] S (Kc Q) EX) := rfl
theorem call__law_word {x0 : D} : wpCall TT FT (n + 1) 17 [x0] S Q EX = (1 = 1 ∧ wpCs TT (wpCall TT FT n) none b__law_word [some x0, none] S (Kc Q) EX) := rfl
theorem call__law_figures {x0 x1 : D} : wpCall TT FT (n + 1) 18 [x0, x1] S Q EX = (2 = 2 ∧ wpCs TT (wpCall TT FT n) none b__law_figures [some x0, some x1, none] S (Kc Q) EX) := rfl
theorem call__law_is_leg {x0 : D} : wpCall TT FT (n + 1) 19 [x0] S Q EX = (1 = 1 ∧ wpCs TT (wpCall TT FT n) none b__law_is_leg [some x0, none] S (Kc Q) EX) := rfl
theorem call__law_is_deal {x0 : D} : wpCall TT FT (n + 1) 20 [x0] S Q EX = (1 = 1 ∧ wpCs TT (wpCall TT FT n) none b__law_is_deal [some x0, none, none] S (Kc Q) EX) := rfl
theorem call__law_good {x0 : D} : wpCall TT FT (n + 1) 21 [x0] S Q EX = (1 = 1 ∧ wpCs TT (wpCall TT FT n) none b__law_good [some x0, none] S (Kc Q) EX) := rfl
theorem call__law_signs {x0 x1 x2 x3 : D} : wpCall TT FT (n + 1) 22 [x0, x1, x2, x3] S Q EX = (4 = 4 ∧ wpCs TT (wpCall TT FT n) none b__law_signs [some x0, some x1, some x2, some x3] S (Kc Q) EX) := rfl
theorem call__law_words {x0 x1 x2 x3 : D} : wpCall TT FT (n + 1) 23 [x0, x1, x2, x3] S Q EX = (4 = 4 ∧ wpCs TT (wpCall TT FT n) none b__law_words [some x0, some x1, some x2, some x3, none, none, none] S (Kc Q) EX) := rfl
theorem call__law_spoiled {x0 x1 : D} : wpCall TT FT (n + 1) 24 [x0, x1] S Q EX = (2 = 2 ∧ wpCs TT (wpCall TT FT n) none b__law_spoiled [some x0, some x1, none, none, none, none, none, none] S (Kc Q) EX) := rfl
theorem call__law_told {x0 : D} : wpCall TT FT (n + 1) 25 [x0] S Q EX = (1 = 1 ∧ wpCs TT (wpCall TT FT n) none b__law_told [some x0, none, none, none] S (Kc Q) EX) := rfl
theorem call_law {x0 : D} : wpCall TT FT (n + 1) 26 [x0] S Q EX = (1 = 1 ∧ wpCs TT (wpCall TT FT n) none b_law [some x0, none, none, none, none, none, none] S (Kc Q) EX) := rfl
theorem call_Lay___init__ {x0 x1 x2 : D} : wpCall TT FT (n + 1) 27 [x0, x1, x2] S Q EX = (3 = 3 ∧ wpCs TT (wpCall TT FT n) none b_Lay___init__ [some x0, some x1, some x2] S (Kc Q) EX) := rfl
theorem call_Lay_row {x0 : D} : wpCall TT FT (n + 1) 28 [x0] S Q EX = (1 = 1 ∧ wpCs TT (wpCall TT FT n) none b_Lay_row [some x0] S (Kc Q) EX) := rfl
theorem call_Take___init__ {x0 x1 x2 : D} : wpCall TT FT (n + 1) 29 [x0, x1, x2] S Q EX = (3 = 3 ∧ wpCs TT (wpCall TT FT n) none b_Take___init__ [some x0, some x1, some x2] S (Kc Q) EX) := rfl
theorem call_Take_row {x0 : D} : wpCall TT FT (n + 1) 30 [x0] S Q EX = (1 = 1 ∧ wpCs TT (wpCall TT FT n) none b_Take_row [some x0] S (Kc Q) EX) := rfl
theorem call_Line___init__ {x0 x1 x2 : D} : wpCall TT FT (n + 1) 31 [x0, x1, x2] S Q EX = (3 = 3 ∧ wpCs TT (wpCall TT FT n) none b_Line___init__ [some x0, some x1, some x2] S (Kc Q) EX) := rfl
theorem call_Line_row {x0 : D} : wpCall TT FT (n + 1) 32 [x0] S Q EX = (1 = 1 ∧ wpCs TT (wpCall TT FT n) none b_Line_row [some x0] S (Kc Q) EX) := rfl
theorem call_Offer___init__ {x0 x1 : D} : wpCall TT FT (n + 1) 33 [x0, x1] S Q EX = (2 = 2 ∧ wpCs TT (wpCall TT FT n) none b_Offer___init__ [some x0, some x1] S (Kc Q) EX) := rfl
theorem call_Offer_row {x0 : D} : wpCall TT FT (n + 1) 34 [x0] S Q EX = (1 = 1 ∧ wpCs TT (wpCall TT FT n) none b_Offer_row [some x0, none, none] S (Kc Q) EX) := rfl
theorem call_Off___init__ {x0 x1 : D} : wpCall TT FT (n + 1) 35 [x0, x1] S Q EX = (2 = 2 ∧ wpCs TT (wpCall TT FT n) none b_Off___init__ [some x0, some x1] S (Kc Q) EX) := rfl
theorem call_Off_row {x0 : D} : wpCall TT FT (n + 1) 36 [x0] S Q EX = (1 = 1 ∧ wpCs TT (wpCall TT FT n) none b_Off_row [some x0] S (Kc Q) EX) := rfl
theorem call_Put___init__ {x0 x1 x2 x3 : D} : wpCall TT FT (n + 1) 37 [x0, x1, x2, x3] S Q EX = (4 = 4 ∧ wpCs TT (wpCall TT FT n) none b_Put___init__ [some x0, some x1, some x2, some x3] S (Kc Q) EX) := rfl
theorem call_Put_row {x0 : D} : wpCall TT FT (n + 1) 38 [x0] S Q EX = (1 = 1 ∧ wpCs TT (wpCall TT FT n) none b_Put_row [some x0] S (Kc Q) EX) := rfl
theorem call_Bell_row {x0 : D} : wpCall TT FT (n + 1) 39 [x0] S Q EX = (1 = 1 ∧ wpCs TT (wpCall TT FT n) none b_Bell_row [some x0] S (Kc Q) EX) := rfl
theorem con_LETTERS : TT.con 0 = some (.str s11) := rfl
theorem con_FIGURES : TT.con 1 = some (.str s26) := rfl
theorem p60 : opD TT .pow [.int 10, .int 60] S Q = Q (.int T60) S := by
  rw [od_pow]
  have e : (10 : Int) ^ (60 : Int).toNat = T60 := by decide
  rw [e]
  simp only [show (0 : Int) ≤ 60 ∧ (60 : Int) ≤ 1000000 ∧ (10 : Int).natAbs < 2 ^ 64 by decide, true_and]
theorem p62 : opD TT .pow [.int 10, .int 62] S Q = Q (.int (100 * T60)) S := by
  rw [od_pow]
  have e : (10 : Int) ^ (62 : Int).toNat = 100 * T60 := by decide
  rw [e]
  simp only [show (0 : Int) ≤ 62 ∧ (62 : Int) ≤ 1000000 ∧ (10 : Int).natAbs < 2 ^ 64 by decide, true_and]
theorem od_isk {k : Ty} (h : tyD S d = some (.inl k)) (t : Ty) (Q : PQ) : opD TT (.isi [.ty t]) [d] S Q = Q (.bl (k.le t)) S := by
  rw [od_isi]
  unfold clsOf
  rw [h]
  simp [clsT]
theorem isS {t : Ty} : opD TT (.isi [.ty t]) [.str a] S Q = Q (.bl (Ty.str.le t)) S := od_isk rfl t Q
theorem isI {t : Ty} : opD TT (.isi [.ty t]) [.int i] S Q = Q (.bl (Ty.int.le t)) S := od_isk rfl t Q
theorem isT {t : Ty} {ds : List D} : opD TT (.isi [.ty t]) [.tup ds] S Q = Q (.bl (Ty.tup.le t)) S := od_isk rfl t Q
theorem isL {t : Ty} {r : Nat} {ds : List D} (h : S[r]? = some (.lst ds)) : opD TT (.isi [.ty t]) [.ref r] S Q = Q (.bl (Ty.lst.le t)) S := od_isk (by simp [tyD, h]) t Q
theorem od_attr {f r c : Nat} {fs : List (Nat × D)} (h : S[r]? = some (.ins c fs)) : opD TT (.attr f) [.ref r] S Q = ∃ d, lookF fs f = some d ∧ Q d S := od_map (f := lookF fs f) (g := fun d => (d, S)) (by
  show oAttr f [.ref r] S = _
  simp [oAttr, h])
theorem od_cutHS (hl : a.length ≤ LIM) : opD TT .cutH [.str a, .int j] S Q = (0 ≤ j ∧ Q (.str (a.take j.toNat)) S) := od_ite (z := (.str (a.take j.toNat), S)) (by
  have e : a.take (clip j a.length) = a.take j.toNat := by
    unfold clip
    rw [Nat.min_def]
    split
    · rfl
    · rw [List.take_length, List.take_of_length_le (by omega)]
  rw [op_cutH]; simp [oCutH, cutF, e, hl])
theorem od_cutLS (hl : a.length ≤ LIM) : opD TT .cutL [.str a, .int i] S Q = (0 ≤ i ∧ Q (.str (a.drop i.toNat)) S) := od_ite (z := (.str (a.drop i.toNat), S)) (by
  have e : (a.drop (clip i a.length)).take (a.length - clip i a.length) = a.drop i.toNat := by
    unfold clip
    rw [Nat.min_def]
    split
    · rw [List.take_of_length_le (by simp)]
    · rw [List.drop_length, List.drop_of_length_le (by omega)]; simp
  rw [op_cutL]; simp [oCutL, cutF, e, hl])
theorem eqD_str : eqD S (.str a) (.str b) = some (decide (a = b)) := by
  have : eqD S (.str a) (.str b) = some (PyData.eqv (sD a) (sD b)) := rfl
  rw [this, eqv_str]
theorem od_eqS : opD TT .eq [.str a, .str b] S Q = Q (.bl (decide (a = b))) S := by rw [od_eq, eqD_str]; simp
theorem op_split : opF TT .split = oSplit := rfl
theorem op_part : opF TT .partition = oPartition := rfl
theorem op_int : opF TT .int = orF oInt1 oIntS := rfl
theorem op_str1 : opF TT .str1 = oStr1 := rfl
theorem od_split (hb : b ≠ [] ∧ small256 b = true) (hl : a.length + 2 ≤ LIM) : opD TT .split [.str a, .str b] S Q = Q (.ref S.length) (S ++ [.lst ((TL.spl b 0 [] a).map .str)]) := od_some (z := (.ref S.length, S ++ [.lst ((TL.spl b 0 [] a).map .str)])) (by
  rw [op_split]; simp [oSplit, hb, hl])
theorem od_part {p q : List Nat} (hb : b ≠ [] ∧ small256 b = true) (hl : a.length ≤ LIM) (h : TL.par b [] a = some (p, q)) : opD TT .partition [.str a, .str b] S Q = Q (.tup [.str p, .str b, .str q]) S := od_some (z := (.tup [.str p, .str b, .str q], S)) (by
  rw [op_part]; simp [oPartition, hb, hl, h])
theorem od_partN (hb : b ≠ [] ∧ small256 b = true) (hl : a.length ≤ LIM) (h : TL.par b [] a = none) : opD TT .partition [.str a, .str b] S Q = Q (.tup [.str a, .str [], .str []]) S := od_some (z := (.tup [.str a, .str [], .str []], S)) (by
  rw [op_part]; simp [oPartition, hb, hl, h])
theorem od_intS {k : Int} (hl : a.length ≤ 640) (h : intText? ⟨a.toArray⟩ = some k) : opD TT .int [.str a] S Q = Q (.int k) S := od_some (z := (.int k, S)) (by
  rw [op_int]; simp [orF, oInt1, oIntS, hl, h])
theorem od_strI (h0 : 0 ≤ i) (h1 : i < T60) : opD TT .str1 [.int i] S Q = Q (.str (TL.numL i.toNat)) S := od_some (z := (.str (TL.numL i.toNat), S)) (by
  rw [op_str1]
  have : i.natAbs.log2 < 1920 := by
    by_cases z : i.natAbs = 0
    · rw [z]; decide
    · refine (Nat.log2_lt z).mpr ?_
      have : (i.natAbs : Int) < (1000000000000000000000000000000000000000000000000000000000000 : Int) := by have h1' : i < (1000000000000000000000000000000000000000000000000000000000000 : Int) := h1; omega
      have h2 : i.natAbs < 2 ^ 200 := by
        have : (1000000000000000000000000000000000000000000000000000000000000 : Nat) < 2 ^ 200 := by decide
        have : i.natAbs < 1000000000000000000000000000000000000000000000000000000000000 := by omega
        omega
      exact Nat.lt_of_lt_of_le h2 (Nat.pow_le_pow_right (show 0 < 2 by decide) (show 200 ≤ 1920 by decide))
  simp [oStr1, h0, this])
/-! ### names -/
def nameA : D → Bool
  | .str s => decide (1 ≤ s.length) && decide (s.length ≤ 8) && s.all (fun c => decide (c ∈ s11))
  | _ => false
theorem signs {wb : Mp.Env → Sto → Kt → Prop} {K : Kt} {a : D} {al : List Nat} {T : Sto → Prop} (hb : ∀ c (K' : Kt), K'.rt = K.rt → (if c ∈ al then K'.nx [some a, some (.str [c])] S else T S) → wb [some a, some (.str [c])] S K') : ∀ (s : List Nat) (y : Option D), (if s.all (fun c => decide (c ∈ al)) = true then ∀ y, K.nx [some a, y] S else T S) →
    foN (asg1 1) (fun _ => True) wb K (s.map fun c => .str [c]) [some a, y] S
  | [], y, h => ⟨trivial, h y⟩
  | c :: s, y, h => by
    refine ⟨trivial, hb c _ rfl ?_⟩
    by_cases hc : c ∈ al
    · rw [if_pos hc]
      refine signs hb s _ ?_
      simpa [hc] using h
    · rw [if_neg hc]
      simpa [hc] using h
theorem sp_is_name {s : List Nat} (hl2 : s.length ≤ LIM) (hq : Q (.bl (nameA (.str s))) S) : wpCall TT FT (n + 1) 0 [.str s] S Q EX := by
  rw [call_is_name]
  refine ⟨rfl, ?_⟩
  unfold b_is_name
  simp only [wpCs, wpC, wpT, wpE, wpEs, wpI, asg1, List.getElem?_cons_zero, List.getElem?_cons_succ, List.set_cons_zero, List.set_cons_succ, od_addI, od_addS, od_sub, od_mulI, od_div, od_mod, od_neg, od_not, od_eqI, od_neI, od_ltI, od_le, od_gt, od_ge, od_isN, od_notN, od_inS, od_ninS, od_tup, od_lst, od_dnT, od_lenS, od_lenT, od_lenQ, od_ixT, od_ixQ, od_min, od_int1, od_intB, od_listT, od_tupT, od_cutHQ, List.length_cons, List.length_nil, if_true, true_and, and_true, Bool.not_true, Bool.not_false, Bool.false_eq_true, if_false, ite_true, ite_false, decide_true, decide_false, reduceIte, Option.some.injEq, exists_eq_left', Int.reduceLT, Int.reduceLE, Int.reduceToNat, and_self, true_or, or_true, isS, Ty.le, hl2, wk_str, con_LETTERS]
  simp only [nameA] at hq
  by_cases h1 : (1 : Int) ≤ s.length
  · have h1' : 1 ≤ s.length := by omega
    simp only [h1, h1', decide_true, Bool.true_and] at hq ⊢
    by_cases h2 : (s.length : Int) ≤ 8
    · have h2' : s.length ≤ 8 := by omega
      simp only [h2, h2', decide_true, Bool.true_and, wpCs, wpC, wpT, wpE, wpEs, wpI, asg1, List.getElem?_cons_zero, List.getElem?_cons_succ, List.set_cons_zero, List.set_cons_succ, od_addI, od_addS, od_sub, od_mulI, od_div, od_mod, od_neg, od_not, od_eqI, od_neI, od_ltI, od_le, od_gt, od_ge, od_isN, od_notN, od_inS, od_ninS, od_tup, od_lst, od_dnT, od_lenS, od_lenT, od_lenQ, od_ixT, od_ixQ, od_min, od_int1, od_intB, od_listT, od_tupT, od_cutHQ, List.length_cons, List.length_nil, if_true, true_and, and_true, Bool.not_true, Bool.not_false, Bool.false_eq_true, if_false, ite_true, ite_false, decide_true, decide_false, reduceIte, Option.some.injEq, exists_eq_left', Int.reduceLT, Int.reduceLE, Int.reduceToNat, and_self, true_or, or_true] at hq ⊢
      refine signs (al := s11) (T := fun S => Q (.bl false) S) (fun c K hrt hk => ?_) s none ?_
      · simp only [wpCs, wpC, wpT, wpE, wpEs, wpI, asg1, List.getElem?_cons_zero, List.getElem?_cons_succ, List.set_cons_zero, List.set_cons_succ, od_addI, od_addS, od_sub, od_mulI, od_div, od_mod, od_neg, od_not, od_eqI, od_neI, od_ltI, od_le, od_gt, od_ge, od_isN, od_notN, od_inS, od_ninS, od_tup, od_lst, od_dnT, od_lenS, od_lenT, od_lenQ, od_ixT, od_ixQ, od_min, od_int1, od_intB, od_listT, od_tupT, od_cutHQ, List.length_cons, List.length_nil, if_true, true_and, and_true, Bool.not_true, Bool.not_false, Bool.false_eq_true, if_false, ite_true, ite_false, decide_true, decide_false, reduceIte, Option.some.injEq, exists_eq_left', Int.reduceLT, Int.reduceLE, Int.reduceToNat, and_self, true_or, or_true]
        by_cases hc : c ∈ s11
        · simpa [hc] using hk
        · simpa [hc, hrt] using hk
      · split
        · rename_i e; rw [e] at hq; exact fun _ => hq
        · rename_i e; rw [Bool.not_eq_true] at e; rw [e] at hq; exact hq
    · have h2' : ¬ s.length ≤ 8 := by omega
      simp only [h2, h2', decide_false, Bool.false_and, wpCs, wpC, wpT, wpE, wpEs, wpI, asg1, List.getElem?_cons_zero, List.getElem?_cons_succ, List.set_cons_zero, List.set_cons_succ, od_addI, od_addS, od_sub, od_mulI, od_div, od_mod, od_neg, od_not, od_eqI, od_neI, od_ltI, od_le, od_gt, od_ge, od_isN, od_notN, od_inS, od_ninS, od_tup, od_lst, od_dnT, od_lenS, od_lenT, od_lenQ, od_ixT, od_ixQ, od_min, od_int1, od_intB, od_listT, od_tupT, od_cutHQ, List.length_cons, List.length_nil, if_true, true_and, and_true, Bool.not_true, Bool.not_false, Bool.false_eq_true, if_false, ite_true, ite_false, decide_true, decide_false, reduceIte, Option.some.injEq, exists_eq_left', Int.reduceLT, Int.reduceLE, Int.reduceToNat, and_self, true_or, or_true] at hq ⊢
      exact hq
  · have h1' : ¬ 1 ≤ s.length := by omega
    simp only [h1, h1', decide_false, Bool.false_and, wpCs, wpC, wpT, wpE, wpEs, wpI, asg1, List.getElem?_cons_zero, List.getElem?_cons_succ, List.set_cons_zero, List.set_cons_succ, od_addI, od_addS, od_sub, od_mulI, od_div, od_mod, od_neg, od_not, od_eqI, od_neI, od_ltI, od_le, od_gt, od_ge, od_isN, od_notN, od_inS, od_ninS, od_tup, od_lst, od_dnT, od_lenS, od_lenT, od_lenQ, od_ixT, od_ixQ, od_min, od_int1, od_intB, od_listT, od_tupT, od_cutHQ, List.length_cons, List.length_nil, if_true, true_and, and_true, Bool.not_true, Bool.not_false, Bool.false_eq_true, if_false, ite_true, ite_false, decide_true, decide_false, reduceIte, Option.some.injEq, exists_eq_left', Int.reduceLT, Int.reduceLE, Int.reduceToNat, and_self, true_or, or_true] at hq ⊢
    exact hq
theorem sp_is_amount (h1 : 1 ≤ i) (h2 : i < T60) (hq : Q (.bl true) S) : wpCall TT FT (n + 1) 1 [.int i] S Q EX := by
  rw [call_is_amount]
  refine ⟨rfl, ?_⟩
  unfold b_is_amount
  simp only [wpCs, wpC, wpT, wpE, wpEs, wpI, asg1, List.getElem?_cons_zero, List.getElem?_cons_succ, List.set_cons_zero, List.set_cons_succ, od_addI, od_addS, od_sub, od_mulI, od_div, od_mod, od_neg, od_not, od_eqI, od_neI, od_ltI, od_le, od_gt, od_ge, od_isN, od_notN, od_inS, od_ninS, od_tup, od_lst, od_dnT, od_lenS, od_lenT, od_lenQ, od_ixT, od_ixQ, od_min, od_int1, od_intB, od_listT, od_tupT, od_cutHQ, List.length_cons, List.length_nil, if_true, true_and, and_true, Bool.not_true, Bool.not_false, Bool.false_eq_true, if_false, ite_true, ite_false, decide_true, decide_false, reduceIte, Option.some.injEq, exists_eq_left', Int.reduceLT, Int.reduceLE, Int.reduceToNat, and_self, true_or, or_true, isI, Ty.le, p60, h1, h2]
  exact hq
theorem name_facts {s : List Nat} (h : nameA (.str s) = true) : 1 ≤ s.length ∧ s.length ≤ 8 ∧ ∀ c ∈ s, c ∈ s11 := by
  simp only [nameA, Bool.and_eq_true, decide_eq_true_eq, List.all_eq_true] at h
  exact ⟨h.1.1, h.1.2, h.2⟩
theorem name_mk {s : List Nat} (h1 : 1 ≤ s.length) (h2 : s.length ≤ 8) (h3 : ∀ c ∈ s, c ∈ s11) : nameA (.str s) = true := by
  simp only [nameA, Bool.and_eq_true, decide_eq_true_eq, List.all_eq_true]
  exact ⟨⟨h1, h2⟩, h3⟩
theorem name_lim {s : List Nat} (h : nameA (.str s) = true) : s.length ≤ LIM := by
  have := name_facts h
  show s.length ≤ 16777216; omega
/-- a leg, told whole -/
structure LegD (z : D) : Prop where
  ex : ∃ g t w m, z = .tup [.str g, .str t, .str w, .int m] ∧ nameA (.str g) = true ∧ nameA (.str t) = true ∧ g ≠ t ∧ nameA (.str w) = true ∧ 1 ≤ m ∧ m < T60
theorem a0 {a b c e : D} : L2.atI [a, b, c, e] 0 = some a := rfl
theorem a1 {a b c e : D} : L2.atI [a, b, c, e] 1 = some b := rfl
theorem a2 {a b c e : D} : L2.atI [a, b, c, e] 2 = some c := rfl
theorem a3 {a b c e : D} : L2.atI [a, b, c, e] 3 = some e := rfl
theorem sp_is_leg (h : LegD d) (hq : Q (.bl true) S) : wpCall TT FT (n + 2) 2 [d] S Q EX := by
  obtain ⟨g, t, w, m, rfl, hg, ht, hgt, hw, m1, m2⟩ := h.ex
  rw [call_is_leg]
  refine ⟨rfl, ?_⟩
  unfold b_is_leg
  simp only [wpCs, wpC, wpT, wpE, wpEs, wpI, asg1, List.getElem?_cons_zero, List.getElem?_cons_succ, List.set_cons_zero, List.set_cons_succ, od_addI, od_addS, od_sub, od_mulI, od_div, od_mod, od_neg, od_not, od_eqI, od_neI, od_ltI, od_le, od_gt, od_ge, od_isN, od_notN, od_inS, od_ninS, od_tup, od_lst, od_dnT, od_lenS, od_lenT, od_lenQ, od_ixT, od_ixQ, od_min, od_int1, od_intB, od_listT, od_tupT, od_cutHQ, List.length_cons, List.length_nil, if_true, true_and, and_true, Bool.not_true, Bool.not_false, Bool.false_eq_true, if_false, ite_true, ite_false, decide_true, decide_false, reduceIte, Option.some.injEq, exists_eq_left', Int.reduceLT, Int.reduceLE, Int.reduceToNat, and_self, true_or, or_true, isT, Ty.le, a0, a1, a2, a3]
  refine sp_is_name (name_lim hg) ?_
  simp only [wpCs, wpC, wpT, wpE, wpEs, wpI, asg1, List.getElem?_cons_zero, List.getElem?_cons_succ, List.set_cons_zero, List.set_cons_succ, od_addI, od_addS, od_sub, od_mulI, od_div, od_mod, od_neg, od_not, od_eqI, od_neI, od_ltI, od_le, od_gt, od_ge, od_isN, od_notN, od_inS, od_ninS, od_tup, od_lst, od_dnT, od_lenS, od_lenT, od_lenQ, od_ixT, od_ixQ, od_min, od_int1, od_intB, od_listT, od_tupT, od_cutHQ, List.length_cons, List.length_nil, if_true, true_and, and_true, Bool.not_true, Bool.not_false, Bool.false_eq_true, if_false, ite_true, ite_false, decide_true, decide_false, reduceIte, Option.some.injEq, exists_eq_left', Int.reduceLT, Int.reduceLE, Int.reduceToNat, and_self, true_or, or_true, hg]
  refine sp_is_name (name_lim ht) ?_
  simp only [wpCs, wpC, wpT, wpE, wpEs, wpI, asg1, List.getElem?_cons_zero, List.getElem?_cons_succ, List.set_cons_zero, List.set_cons_succ, od_addI, od_addS, od_sub, od_mulI, od_div, od_mod, od_neg, od_not, od_eqI, od_neI, od_ltI, od_le, od_gt, od_ge, od_isN, od_notN, od_inS, od_ninS, od_tup, od_lst, od_dnT, od_lenS, od_lenT, od_lenQ, od_ixT, od_ixQ, od_min, od_int1, od_intB, od_listT, od_tupT, od_cutHQ, List.length_cons, List.length_nil, if_true, true_and, and_true, Bool.not_true, Bool.not_false, Bool.false_eq_true, if_false, ite_true, ite_false, decide_true, decide_false, reduceIte, Option.some.injEq, exists_eq_left', Int.reduceLT, Int.reduceLE, Int.reduceToNat, and_self, true_or, or_true, ht, od_eqS, hgt]
  refine sp_is_name (name_lim hw) ?_
  simp only [wpCs, wpC, wpT, wpE, wpEs, wpI, asg1, List.getElem?_cons_zero, List.getElem?_cons_succ, List.set_cons_zero, List.set_cons_succ, od_addI, od_addS, od_sub, od_mulI, od_div, od_mod, od_neg, od_not, od_eqI, od_neI, od_ltI, od_le, od_gt, od_ge, od_isN, od_notN, od_inS, od_ninS, od_tup, od_lst, od_dnT, od_lenS, od_lenT, od_lenQ, od_ixT, od_ixQ, od_min, od_int1, od_intB, od_listT, od_tupT, od_cutHQ, List.length_cons, List.length_nil, if_true, true_and, and_true, Bool.not_true, Bool.not_false, Bool.false_eq_true, if_false, ite_true, ite_false, decide_true, decide_false, reduceIte, Option.some.injEq, exists_eq_left', Int.reduceLT, Int.reduceLE, Int.reduceToNat, and_self, true_or, or_true, hw]
  exact sp_is_amount m1 m2 hq
theorem sp_deal_of {s : List Nat} (hn : nameA (.str s) = true) {r : Nat} {ds : List D} (hr : S[r]? = some (.lst ds)) (hd : ∀ z ∈ ds, LegD z) (h1 : 1 ≤ ds.length) (h2 : ds.length ≤ 8)
    (hq : Q (.tup [.str s, .tup ds]) S) : wpCall TT FT (n + 3) 3 [.str s, .ref r] S Q EX := by
  rw [call_deal_of]
  refine ⟨rfl, ?_⟩
  unfold b_deal_of
  rw [wpCs, wpC]
  simp only [wpCs, wpC, wpT, wpE, wpEs, wpI, asg1, List.getElem?_cons_zero, List.getElem?_cons_succ, List.set_cons_zero, List.set_cons_succ]
  refine sp_is_name (name_lim hn) ?_
  have h1' : (1 : Int) ≤ ds.length := by omega
  have h2' : (ds.length : Int) ≤ 8 := by omega
  simp only [wpCs, wpC, wpT, wpE, wpEs, wpI, asg1, List.getElem?_cons_zero, List.getElem?_cons_succ, List.set_cons_zero, List.set_cons_succ, od_addI, od_addS, od_sub, od_mulI, od_div, od_mod, od_neg, od_not, od_eqI, od_neI, od_ltI, od_le, od_gt, od_ge, od_isN, od_notN, od_inS, od_ninS, od_tup, od_lst, od_dnT, od_lenS, od_lenT, od_lenQ, od_ixT, od_ixQ, od_min, od_int1, od_intB, od_listT, od_tupT, od_cutHQ, List.length_cons, List.length_nil, if_true, true_and, and_true, Bool.not_true, Bool.not_false, Bool.false_eq_true, if_false, ite_true, ite_false, decide_true, decide_false, reduceIte, Option.some.injEq, exists_eq_left', Int.reduceLT, Int.reduceLE, Int.reduceToNat, and_self, true_or, or_true, hn, isL hr, Ty.le, od_lenL hr, h1', h2', wk_lst hr]
  refine foN_ix (P := fun j ρ S' => S' = S ∧ (∃ y, ρ = [some (.str s), some (.ref r), y])) (fun j ρ S' h => by rw [h.1]; exact sq_lst hr) ?_ ?_ _ _ ⟨rfl, ⟨_, rfl⟩⟩
  · rintro j z ρ S' K' hz ⟨rfl, ⟨y, rfl⟩⟩ hnx hrt
    refine ⟨_, rfl, ?_⟩
    simp only [wpCs, wpC, wpT, wpE, wpEs, wpI, asg1, List.getElem?_cons_zero, List.getElem?_cons_succ, List.set_cons_zero, List.set_cons_succ, od_addI, od_addS, od_sub, od_mulI, od_div, od_mod, od_neg, od_not, od_eqI, od_neI, od_ltI, od_le, od_gt, od_ge, od_isN, od_notN, od_inS, od_ninS, od_tup, od_lst, od_dnT, od_lenS, od_lenT, od_lenQ, od_ixT, od_ixQ, od_min, od_int1, od_intB, od_listT, od_tupT, od_cutHQ, List.length_cons, List.length_nil, if_true, true_and, and_true, Bool.not_true, Bool.not_false, Bool.false_eq_true, if_false, ite_true, ite_false, decide_true, decide_false, reduceIte, Option.some.injEq, exists_eq_left', Int.reduceLT, Int.reduceLE, Int.reduceToNat, and_self, true_or, or_true]
    refine sp_is_leg (hd z (List.mem_of_getElem? hz)) ?_
    simp only [wpCs, wpC, wpT, wpE, wpEs, wpI, asg1, List.getElem?_cons_zero, List.getElem?_cons_succ, List.set_cons_zero, List.set_cons_succ, od_addI, od_addS, od_sub, od_mulI, od_div, od_mod, od_neg, od_not, od_eqI, od_neI, od_ltI, od_le, od_gt, od_ge, od_isN, od_notN, od_inS, od_ninS, od_tup, od_lst, od_dnT, od_lenS, od_lenT, od_lenQ, od_ixT, od_ixQ, od_min, od_int1, od_intB, od_listT, od_tupT, od_cutHQ, List.length_cons, List.length_nil, if_true, true_and, and_true, Bool.not_true, Bool.not_false, Bool.false_eq_true, if_false, ite_true, ite_false, decide_true, decide_false, reduceIte, Option.some.injEq, exists_eq_left', Int.reduceLT, Int.reduceLE, Int.reduceToNat, and_self, true_or, or_true]
    exact hnx _ _ ⟨rfl, ⟨_, rfl⟩⟩
  · rintro ρ S' ⟨rfl, ⟨y, rfl⟩⟩
    simp only [wpCs, wpC, wpT, wpE, wpEs, wpI, asg1, List.getElem?_cons_zero, List.getElem?_cons_succ, List.set_cons_zero, List.set_cons_succ, od_addI, od_addS, od_sub, od_mulI, od_div, od_mod, od_neg, od_not, od_eqI, od_neI, od_ltI, od_le, od_gt, od_ge, od_isN, od_notN, od_inS, od_ninS, od_tup, od_lst, od_dnT, od_lenS, od_lenT, od_lenQ, od_ixT, od_ixQ, od_min, od_int1, od_intB, od_listT, od_tupT, od_cutHQ, List.length_cons, List.length_nil, if_true, true_and, and_true, Bool.not_true, Bool.not_false, Bool.false_eq_true, if_false, ite_true, ite_false, decide_true, decide_false, reduceIte, Option.some.injEq, exists_eq_left', Int.reduceLT, Int.reduceLE, Int.reduceToNat, and_self, true_or, or_true, od_tupL hr]
    exact ⟨by decide, hq⟩
/-! ### words read -/
theorem sp_name_in {s : List Nat} (hl : s.length ≤ LIM) (hq : if nameA (.str s) = true then Q (.str s) S else EX 9 S) : wpCall TT FT (n + 2) 4 [.str s] S Q EX := by
  rw [call_name_in]
  refine ⟨rfl, ?_⟩
  unfold b_name_in
  simp only [wpCs, wpC, wpT, wpE, wpEs, wpI, asg1, List.getElem?_cons_zero, List.getElem?_cons_succ, List.set_cons_zero, List.set_cons_succ, od_addI, od_addS, od_sub, od_mulI, od_div, od_mod, od_neg, od_not, od_eqI, od_neI, od_ltI, od_le, od_gt, od_ge, od_isN, od_notN, od_inS, od_ninS, od_tup, od_lst, od_dnT, od_lenS, od_lenT, od_lenQ, od_ixT, od_ixQ, od_min, od_int1, od_intB, od_listT, od_tupT, od_cutHQ, List.length_cons, List.length_nil, if_true, true_and, and_true, Bool.not_true, Bool.not_false, Bool.false_eq_true, if_false, ite_true, ite_false, decide_true, decide_false, reduceIte, Option.some.injEq, exists_eq_left', Int.reduceLT, Int.reduceLE, Int.reduceToNat, and_self, true_or, or_true]
  refine sp_is_name hl ?_
  cases e : nameA (.str s) with
  | true => rw [e] at hq; simp only [wpCs, wpC, wpT, wpE, wpEs, wpI, asg1, List.getElem?_cons_zero, List.getElem?_cons_succ, List.set_cons_zero, List.set_cons_succ, od_addI, od_addS, od_sub, od_mulI, od_div, od_mod, od_neg, od_not, od_eqI, od_neI, od_ltI, od_le, od_gt, od_ge, od_isN, od_notN, od_inS, od_ninS, od_tup, od_lst, od_dnT, od_lenS, od_lenT, od_lenQ, od_ixT, od_ixQ, od_min, od_int1, od_intB, od_listT, od_tupT, od_cutHQ, List.length_cons, List.length_nil, if_true, true_and, and_true, Bool.not_true, Bool.not_false, Bool.false_eq_true, if_false, ite_true, ite_false, decide_true, decide_false, reduceIte, Option.some.injEq, exists_eq_left', Int.reduceLT, Int.reduceLE, Int.reduceToNat, and_self, true_or, or_true] at hq ⊢; exact hq
  | false => rw [e] at hq; simp only [wpCs, wpC, wpT, wpE, wpEs, wpI, asg1, List.getElem?_cons_zero, List.getElem?_cons_succ, List.set_cons_zero, List.set_cons_succ, od_addI, od_addS, od_sub, od_mulI, od_div, od_mod, od_neg, od_not, od_eqI, od_neI, od_ltI, od_le, od_gt, od_ge, od_isN, od_notN, od_inS, od_ninS, od_tup, od_lst, od_dnT, od_lenS, od_lenT, od_lenQ, od_ixT, od_ixQ, od_min, od_int1, od_intB, od_listT, od_tupT, od_cutHQ, List.length_cons, List.length_nil, if_true, true_and, and_true, Bool.not_true, Bool.not_false, Bool.false_eq_true, if_false, ite_true, ite_false, decide_true, decide_false, reduceIte, Option.some.injEq, exists_eq_left', Int.reduceLT, Int.reduceLE, Int.reduceToNat, and_self, true_or, or_true] at hq ⊢; exact hq
/-- what a number's word is -/
def numW (s : List Nat) : Bool := decide (s ≠ []) && decide (s.length ≤ 60) && s.all (fun c => decide (c ∈ s26)) && !(decide (s.take 1 = [48]) && decide (1 < s.length))
def valW (s : List Nat) : Int := (NumText.digitsVal s : Nat)
theorem figs {c : Nat} : c ∈ s26 ↔ 48 ≤ c ∧ c ≤ 57 := by
  unfold s26
  simp only [List.mem_cons, List.not_mem_nil, or_false]
  omega
theorem int_word {s : List Nat} (h1 : s ≠ []) (h2 : s.length ≤ 60) (h3 : ∀ c ∈ s, c ∈ s26) : intText? ⟨s.toArray⟩ = some (valW s) :=
  SX.int_S (List.all_eq_true.mpr fun c hc => by have := figs.mp (h3 c hc); simp; exact this) h1 (by omega)
theorem sp_number_in {s : List Nat} (hl : s.length ≤ LIM) (hq : if numW s = true then Q (.int (valW s)) S else EX 9 S) : wpCall TT FT (n + 2) 5 [.str s] S Q EX := by
  rw [call_number_in]
  refine ⟨rfl, ?_⟩
  unfold b_number_in
  have e1 : s1 = [] := rfl
  have e0 : s0 = [48] := rfl
  by_cases h1 : s = []
  · rw [if_neg (by simp [numW, h1])] at hq
    simp only [wpCs, wpC, wpT, wpE, wpEs, wpI, asg1, List.getElem?_cons_zero, List.getElem?_cons_succ, List.set_cons_zero, List.set_cons_succ, od_addI, od_addS, od_sub, od_mulI, od_div, od_mod, od_neg, od_not, od_eqI, od_neI, od_ltI, od_le, od_gt, od_ge, od_isN, od_notN, od_inS, od_ninS, od_tup, od_lst, od_dnT, od_lenS, od_lenT, od_lenQ, od_ixT, od_ixQ, od_min, od_int1, od_intB, od_listT, od_tupT, od_cutHQ, List.length_cons, List.length_nil, if_true, true_and, and_true, Bool.not_true, Bool.not_false, Bool.false_eq_true, if_false, ite_true, ite_false, decide_true, decide_false, reduceIte, Option.some.injEq, exists_eq_left', Int.reduceLT, Int.reduceLE, Int.reduceToNat, and_self, true_or, or_true, od_eqS, e1, h1]
    exact hq
  · by_cases h2 : (60 : Int) < s.length
    · have h2' : ¬ s.length ≤ 60 := by omega
      rw [if_neg (by simp [numW, h2'])] at hq
      simp only [wpCs, wpC, wpT, wpE, wpEs, wpI, asg1, List.getElem?_cons_zero, List.getElem?_cons_succ, List.set_cons_zero, List.set_cons_succ, od_addI, od_addS, od_sub, od_mulI, od_div, od_mod, od_neg, od_not, od_eqI, od_neI, od_ltI, od_le, od_gt, od_ge, od_isN, od_notN, od_inS, od_ninS, od_tup, od_lst, od_dnT, od_lenS, od_lenT, od_lenQ, od_ixT, od_ixQ, od_min, od_int1, od_intB, od_listT, od_tupT, od_cutHQ, List.length_cons, List.length_nil, if_true, true_and, and_true, Bool.not_true, Bool.not_false, Bool.false_eq_true, if_false, ite_true, ite_false, decide_true, decide_false, reduceIte, Option.some.injEq, exists_eq_left', Int.reduceLT, Int.reduceLE, Int.reduceToNat, and_self, true_or, or_true, od_eqS, e1, h1, hl, h2]
      exact hq
    · have h2' : s.length ≤ 60 := by omega
      simp only [wpCs, wpC, wpT, wpE, wpEs, wpI, asg1, List.getElem?_cons_zero, List.getElem?_cons_succ, List.set_cons_zero, List.set_cons_succ, od_addI, od_addS, od_sub, od_mulI, od_div, od_mod, od_neg, od_not, od_eqI, od_neI, od_ltI, od_le, od_gt, od_ge, od_isN, od_notN, od_inS, od_ninS, od_tup, od_lst, od_dnT, od_lenS, od_lenT, od_lenQ, od_ixT, od_ixQ, od_min, od_int1, od_intB, od_listT, od_tupT, od_cutHQ, List.length_cons, List.length_nil, if_true, true_and, and_true, Bool.not_true, Bool.not_false, Bool.false_eq_true, if_false, ite_true, ite_false, decide_true, decide_false, reduceIte, Option.some.injEq, exists_eq_left', Int.reduceLT, Int.reduceLE, Int.reduceToNat, and_self, true_or, or_true, od_eqS, e1, h1, hl, h2, wk_str, con_FIGURES]
      refine signs (al := s26) (T := fun S => EX 9 S) (fun c K hrt hk => ?_) s none ?_
      · simp only [wpCs, wpC, wpT, wpE, wpEs, wpI, asg1, List.getElem?_cons_zero, List.getElem?_cons_succ, List.set_cons_zero, List.set_cons_succ, od_addI, od_addS, od_sub, od_mulI, od_div, od_mod, od_neg, od_not, od_eqI, od_neI, od_ltI, od_le, od_gt, od_ge, od_isN, od_notN, od_inS, od_ninS, od_tup, od_lst, od_dnT, od_lenS, od_lenT, od_lenQ, od_ixT, od_ixQ, od_min, od_int1, od_intB, od_listT, od_tupT, od_cutHQ, List.length_cons, List.length_nil, if_true, true_and, and_true, Bool.not_true, Bool.not_false, Bool.false_eq_true, if_false, ite_true, ite_false, decide_true, decide_false, reduceIte, Option.some.injEq, exists_eq_left', Int.reduceLT, Int.reduceLE, Int.reduceToNat, and_self, true_or, or_true]
        by_cases hc : c ∈ s26
        · simpa [hc] using hk
        · simpa [hc] using hk
      · split
        · rename_i e
          intro y
          obtain ⟨c, t, rfl⟩ : ∃ c t, s = c :: t := by
            cases s with
            | nil => exact absurd rfl h1
            | cons c t => exact ⟨c, t, rfl⟩
          have ec : L2.atI (c :: t) 0 = some c := by rw [atI_nn (by decide) (by simp)]; rfl
          have hint : intText? ⟨(c :: t).toArray⟩ = some (valW (c :: t)) := int_word h1 h2' fun z hz => of_decide_eq_true (List.all_eq_true.mp e z hz)
          have hi : ∀ Q, opD TT .int [.str (c :: t)] S Q = Q (.int (valW (c :: t))) S := fun Q => od_intS (by omega) hint
          simp only [wpCs, wpC, wpT, wpE, wpEs, wpI, asg1, List.getElem?_cons_zero, List.getElem?_cons_succ, List.set_cons_zero, List.set_cons_succ, od_addI, od_addS, od_sub, od_mulI, od_div, od_mod, od_neg, od_not, od_eqI, od_neI, od_ltI, od_le, od_gt, od_ge, od_isN, od_notN, od_inS, od_ninS, od_tup, od_lst, od_dnT, od_lenS, od_lenT, od_lenQ, od_ixT, od_ixQ, od_min, od_int1, od_intB, od_listT, od_tupT, od_cutHQ, List.length_cons, List.length_nil, if_true, true_and, and_true, Bool.not_true, Bool.not_false, Bool.false_eq_true, if_false, ite_true, ite_false, decide_true, decide_false, reduceIte, Option.some.injEq, exists_eq_left', Int.reduceLT, Int.reduceLE, Int.reduceToNat, and_self, true_or, or_true, od_ixS hl, ec, e0, hl, hi]
          by_cases k1 : c = 48
          · subst k1
            simp only [List.length_cons] at hl
            by_cases k2 : (1 : Int) < ((t.length + 1 : Nat) : Int)
            · have k3 : 1 < t.length + 1 := by omega
              rw [if_neg (by simp only [numW, List.length_cons, k3, List.take]; simp)] at hq
              simp only [k2, wpCs, wpC, wpT, wpE, wpEs, wpI, asg1, List.getElem?_cons_zero, List.getElem?_cons_succ, List.set_cons_zero, List.set_cons_succ, od_addI, od_addS, od_sub, od_mulI, od_div, od_mod, od_neg, od_not, od_eqI, od_neI, od_ltI, od_le, od_gt, od_ge, od_isN, od_notN, od_inS, od_ninS, od_tup, od_lst, od_dnT, od_lenS, od_lenT, od_lenQ, od_ixT, od_ixQ, od_min, od_int1, od_intB, od_listT, od_tupT, od_cutHQ, List.length_cons, List.length_nil, if_true, true_and, and_true, Bool.not_true, Bool.not_false, Bool.false_eq_true, if_false, ite_true, ite_false, decide_true, decide_false, reduceIte, Option.some.injEq, exists_eq_left', Int.reduceLT, Int.reduceLE, Int.reduceToNat, and_self, true_or, or_true, hl, od_eqS, od_gt]
              exact hq
            · have k3 : ¬ 1 < t.length + 1 := by omega
              rw [if_pos (by simp only [numW, List.length_cons, k3, e, List.take]; simp; omega)] at hq
              simp only [k2, wpCs, wpC, wpT, wpE, wpEs, wpI, asg1, List.getElem?_cons_zero, List.getElem?_cons_succ, List.set_cons_zero, List.set_cons_succ, od_addI, od_addS, od_sub, od_mulI, od_div, od_mod, od_neg, od_not, od_eqI, od_neI, od_ltI, od_le, od_gt, od_ge, od_isN, od_notN, od_inS, od_ninS, od_tup, od_lst, od_dnT, od_lenS, od_lenT, od_lenQ, od_ixT, od_ixQ, od_min, od_int1, od_intB, od_listT, od_tupT, od_cutHQ, List.length_cons, List.length_nil, if_true, true_and, and_true, Bool.not_true, Bool.not_false, Bool.false_eq_true, if_false, ite_true, ite_false, decide_true, decide_false, reduceIte, Option.some.injEq, exists_eq_left', Int.reduceLT, Int.reduceLE, Int.reduceToNat, and_self, true_or, or_true, hl, od_eqS, od_gt, hi]
              exact hq
          · have k1' : ¬ [c] = [48] := by simpa using k1
            rw [if_pos (by simp only [numW, e, h2', List.take]; simp [k1])] at hq
            simp only [k1', wpCs, wpC, wpT, wpE, wpEs, wpI, asg1, List.getElem?_cons_zero, List.getElem?_cons_succ, List.set_cons_zero, List.set_cons_succ, od_addI, od_addS, od_sub, od_mulI, od_div, od_mod, od_neg, od_not, od_eqI, od_neI, od_ltI, od_le, od_gt, od_ge, od_isN, od_notN, od_inS, od_ninS, od_tup, od_lst, od_dnT, od_lenS, od_lenT, od_lenQ, od_ixT, od_ixQ, od_min, od_int1, od_intB, od_listT, od_tupT, od_cutHQ, List.length_cons, List.length_nil, if_true, true_and, and_true, Bool.not_true, Bool.not_false, Bool.false_eq_true, if_false, ite_true, ite_false, decide_true, decide_false, reduceIte, Option.some.injEq, exists_eq_left', Int.reduceLT, Int.reduceLE, Int.reduceToNat, and_self, true_or, or_true, hl, od_eqS, hi]
            exact hq
        · rename_i e
          rw [if_neg (by simp only [numW]; intro w; simp only [Bool.and_eq_true] at w; exact e w.1.2)] at hq
          exact hq
theorem sp_amount_in {s : List Nat} (hl : s.length ≤ LIM) (hq : if numW s = true ∧ valW s ≠ 0 then Q (.int (valW s)) S else EX 9 S) : wpCall TT FT (n + 3) 6 [.str s] S Q EX := by
  rw [call_amount_in]
  refine ⟨rfl, ?_⟩
  unfold b_amount_in
  simp only [wpCs, wpC, wpT, wpE, wpEs, wpI, asg1, List.getElem?_cons_zero, List.getElem?_cons_succ, List.set_cons_zero, List.set_cons_succ, od_addI, od_addS, od_sub, od_mulI, od_div, od_mod, od_neg, od_not, od_eqI, od_neI, od_ltI, od_le, od_gt, od_ge, od_isN, od_notN, od_inS, od_ninS, od_tup, od_lst, od_dnT, od_lenS, od_lenT, od_lenQ, od_ixT, od_ixQ, od_min, od_int1, od_intB, od_listT, od_tupT, od_cutHQ, List.length_cons, List.length_nil, if_true, true_and, and_true, Bool.not_true, Bool.not_false, Bool.false_eq_true, if_false, ite_true, ite_false, decide_true, decide_false, reduceIte, Option.some.injEq, exists_eq_left', Int.reduceLT, Int.reduceLE, Int.reduceToNat, and_self, true_or, or_true]
  refine sp_number_in hl ?_
  by_cases h1 : numW s = true
  · rw [if_pos h1]
    by_cases h2 : valW s = 0
    · rw [if_neg (fun w => w.2 h2)] at hq
      simp only [h2, wpCs, wpC, wpT, wpE, wpEs, wpI, asg1, List.getElem?_cons_zero, List.getElem?_cons_succ, List.set_cons_zero, List.set_cons_succ, od_addI, od_addS, od_sub, od_mulI, od_div, od_mod, od_neg, od_not, od_eqI, od_neI, od_ltI, od_le, od_gt, od_ge, od_isN, od_notN, od_inS, od_ninS, od_tup, od_lst, od_dnT, od_lenS, od_lenT, od_lenQ, od_ixT, od_ixQ, od_min, od_int1, od_intB, od_listT, od_tupT, od_cutHQ, List.length_cons, List.length_nil, if_true, true_and, and_true, Bool.not_true, Bool.not_false, Bool.false_eq_true, if_false, ite_true, ite_false, decide_true, decide_false, reduceIte, Option.some.injEq, exists_eq_left', Int.reduceLT, Int.reduceLE, Int.reduceToNat, and_self, true_or, or_true]
      exact hq
    · rw [if_pos ⟨h1, h2⟩] at hq
      simp only [h2, wpCs, wpC, wpT, wpE, wpEs, wpI, asg1, List.getElem?_cons_zero, List.getElem?_cons_succ, List.set_cons_zero, List.set_cons_succ, od_addI, od_addS, od_sub, od_mulI, od_div, od_mod, od_neg, od_not, od_eqI, od_neI, od_ltI, od_le, od_gt, od_ge, od_isN, od_notN, od_inS, od_ninS, od_tup, od_lst, od_dnT, od_lenS, od_lenT, od_lenQ, od_ixT, od_ixQ, od_min, od_int1, od_intB, od_listT, od_tupT, od_cutHQ, List.length_cons, List.length_nil, if_true, true_and, and_true, Bool.not_true, Bool.not_false, Bool.false_eq_true, if_false, ite_true, ite_false, decide_true, decide_false, reduceIte, Option.some.injEq, exists_eq_left', Int.reduceLT, Int.reduceLE, Int.reduceToNat, and_self, true_or, or_true]
      exact hq
  · rw [if_neg (fun w => h1 w.1)] at hq
    rw [if_neg h1]
    exact hq
/-! ### rows read -/
def wds (t : List Nat) : List (List Nat) := TL.spl [32] 0 [] t
theorem spl_len (b : List Nat) : ∀ (a : List Nat) (k : Nat) (acc p : List Nat), p ∈ TL.spl b k acc a → p.length ≤ acc.length + a.length
  | [], k, acc, p, h => by
    rw [TL.spl_nil] at h
    rw [List.mem_singleton.mp h]; simp
  | c :: r, 0, acc, p, h => by
    by_cases e : TL.pre b (c :: r) = true
    · rw [TL.spl_hit e] at h
      rcases List.mem_cons.mp h with rfl | h
      · simp
      · have := spl_len b r _ _ _ h
        simp at this ⊢; omega
    · rw [Bool.not_eq_true] at e
      rw [TL.spl_miss e] at h
      have := spl_len b r _ _ _ h
      simp at this ⊢; omega
  | c :: r, k + 1, acc, p, h => by
    have := spl_len b r k acc p h
    simp at this ⊢; omega
theorem spl_ne (b : List Nat) : ∀ (a : List Nat) (k : Nat) (acc : List Nat), TL.spl b k acc a ≠ []
  | [], k, acc => by rw [TL.spl_nil]; simp
  | c :: r, 0, acc => by
    by_cases e : TL.pre b (c :: r) = true
    · rw [TL.spl_hit e]; simp
    · rw [Bool.not_eq_true] at e
      rw [TL.spl_miss e]; exact spl_ne b r _ _
  | c :: r, k + 1, acc => spl_ne b r k acc
theorem spl_count (b : List Nat) : ∀ (a : List Nat) (k : Nat) (acc : List Nat), (TL.spl b k acc a).length ≤ a.length + 1
  | [], k, acc => by rw [TL.spl_nil]; simp
  | c :: r, 0, acc => by
    by_cases e : TL.pre b (c :: r) = true
    · rw [TL.spl_hit e]
      have := spl_count b r (b.length - 1) []
      simp at this ⊢; omega
    · rw [Bool.not_eq_true] at e
      rw [TL.spl_miss e]
      have := spl_count b r 0 (acc ++ [c])
      simp at this ⊢; omega
  | c :: r, k + 1, acc => by
    have := spl_count b r k acc
    simp at this ⊢
    show (TL.spl b k acc r).length ≤ _
    omega
theorem b32 : (s2 : List Nat) ≠ [] ∧ small256 s2 = true := ⟨by decide, by decide⟩
theorem b44 : (s3 : List Nat) ≠ [] ∧ small256 s3 = true := ⟨by decide, by decide⟩
abbrev LN : Nat := 1000000
def legW (g t w m : List Nat) : Bool := nameA (.str g) && nameA (.str t) && !(decide (g = t)) && nameA (.str w) && numW m && !(decide (valW m = 0))
def legL : List (List Nat) → Option D
  | [g, t, w, m] => if legW g t w m = true then some (.tup [.str g, .str t, .str w, .int (valW m)]) else none
  | _ => none
def legP (t : List Nat) : Option D := legL (wds t)
theorem legL_ne {ws : List (List Nat)} (h : ws.length ≠ 4) : legL ws = none := by
  match ws, h with
  | [], _ => rfl
  | [_], _ => rfl
  | [_, _], _ => rfl
  | [_, _, _], _ => rfl
  | [_, _, _, _], h => exact absurd rfl h
  | _ :: _ :: _ :: _ :: _ :: _, _ => rfl
theorem sp_leg_in {t : List Nat} (hl : t.length ≤ LN) (hq : ∀ S', Gr S S' → match legP t with | some d => Q d S' | none => EX 9 S') : wpCall TT FT (n + 4) 7 [.str t] S Q EX := by
  rw [call_leg_in]
  refine ⟨rfl, ?_⟩
  unfold b_leg_in
  have hl' : t.length + 2 ≤ LIM := by show t.length + 2 ≤ 16777216; have : t.length ≤ 1000000 := hl; omega
  have hw : ∀ p ∈ wds t, p.length ≤ LIM := fun p hp => by
    have := spl_len _ _ _ _ _ hp
    simp at this; omega
  have tks : ∀ S, tyOk .split S (.str t) = true := fun _ => rfl
  have hq1 : ∀ S', Gr S S' → match legL (wds t) with | some d => Q d S' | none => EX 9 S' := hq
  have e : TL.spl s2 0 [] t = wds t := rfl
  generalize wds t = ws at e hw hq1
  simp only [wpCs, wpC, wpT, wpE, wpEs, wpI, asg1, List.getElem?_cons_zero, List.getElem?_cons_succ, List.set_cons_zero, List.set_cons_succ, od_addI, od_addS, od_sub, od_mulI, od_div, od_mod, od_neg, od_not, od_eqI, od_neI, od_ltI, od_le, od_gt, od_ge, od_isN, od_notN, od_inS, od_ninS, od_tup, od_lst, od_dnT, od_lenS, od_lenT, od_lenQ, od_ixT, od_ixQ, od_min, od_int1, od_intB, od_listT, od_tupT, od_cutHQ, List.length_cons, List.length_nil, if_true, true_and, and_true, Bool.not_true, Bool.not_false, Bool.false_eq_true, if_false, ite_true, ite_false, decide_true, decide_false, reduceIte, Option.some.injEq, exists_eq_left', Int.reduceLT, Int.reduceLE, Int.reduceToNat, and_self, true_or, or_true, tks, od_split b32 hl', e]
  have h1 := at_push S (.lst (ws.map .str))
  have g1 : Gr S (S ++ [.lst (ws.map .str)]) := Gr.push _ _
  by_cases h4 : ws.length = 4
  · match ws, h4 with
    | [g, t, w, m], _ =>
      have z := hq1 _ g1
      simp only [List.map_cons, List.map_nil] at h1 g1 z ⊢
      simp only [wpCs, wpC, wpT, wpE, wpEs, wpI, asg1, List.getElem?_cons_zero, List.getElem?_cons_succ, List.set_cons_zero, List.set_cons_succ, od_addI, od_addS, od_sub, od_mulI, od_div, od_mod, od_neg, od_not, od_eqI, od_neI, od_ltI, od_le, od_gt, od_ge, od_isN, od_notN, od_inS, od_ninS, od_tup, od_lst, od_dnT, od_lenS, od_lenT, od_lenQ, od_ixT, od_ixQ, od_min, od_int1, od_intB, od_listT, od_tupT, od_cutHQ, List.length_cons, List.length_nil, if_true, true_and, and_true, Bool.not_true, Bool.not_false, Bool.false_eq_true, if_false, ite_true, ite_false, decide_true, decide_false, reduceIte, Option.some.injEq, exists_eq_left', Int.reduceLT, Int.reduceLE, Int.reduceToNat, and_self, true_or, or_true, od_lenL h1, od_ixL h1, a0, a1, a2, a3]
      refine sp_name_in (hw g (by simp)) ?_
      by_cases c1 : nameA (.str g) = true
      · rw [if_pos c1]
        simp only [od_ixL h1, a1, wpCs, wpC, wpT, wpE, wpEs, wpI, asg1, List.getElem?_cons_zero, List.getElem?_cons_succ, List.set_cons_zero, List.set_cons_succ, od_addI, od_addS, od_sub, od_mulI, od_div, od_mod, od_neg, od_not, od_eqI, od_neI, od_ltI, od_le, od_gt, od_ge, od_isN, od_notN, od_inS, od_ninS, od_tup, od_lst, od_dnT, od_lenS, od_lenT, od_lenQ, od_ixT, od_ixQ, od_min, od_int1, od_intB, od_listT, od_tupT, od_cutHQ, List.length_cons, List.length_nil, if_true, true_and, and_true, Bool.not_true, Bool.not_false, Bool.false_eq_true, if_false, ite_true, ite_false, decide_true, decide_false, reduceIte, Option.some.injEq, exists_eq_left', Int.reduceLT, Int.reduceLE, Int.reduceToNat, and_self, true_or, or_true]
        refine sp_name_in (hw t (by simp)) ?_
        by_cases c2 : nameA (.str t) = true
        · rw [if_pos c2]
          simp only [wpCs, wpC, wpT, wpE, wpEs, wpI, asg1, List.getElem?_cons_zero, List.getElem?_cons_succ, List.set_cons_zero, List.set_cons_succ, od_addI, od_addS, od_sub, od_mulI, od_div, od_mod, od_neg, od_not, od_eqI, od_neI, od_ltI, od_le, od_gt, od_ge, od_isN, od_notN, od_inS, od_ninS, od_tup, od_lst, od_dnT, od_lenS, od_lenT, od_lenQ, od_ixT, od_ixQ, od_min, od_int1, od_intB, od_listT, od_tupT, od_cutHQ, List.length_cons, List.length_nil, if_true, true_and, and_true, Bool.not_true, Bool.not_false, Bool.false_eq_true, if_false, ite_true, ite_false, decide_true, decide_false, reduceIte, Option.some.injEq, exists_eq_left', Int.reduceLT, Int.reduceLE, Int.reduceToNat, and_self, true_or, or_true, od_eqS]
          by_cases c3 : g = t
          · have lw : legW g t w m = false := by simp [legW, c3]
            simp only [legL, lw] at z
            simp only [c3, wpCs, wpC, wpT, wpE, wpEs, wpI, asg1, List.getElem?_cons_zero, List.getElem?_cons_succ, List.set_cons_zero, List.set_cons_succ, od_addI, od_addS, od_sub, od_mulI, od_div, od_mod, od_neg, od_not, od_eqI, od_neI, od_ltI, od_le, od_gt, od_ge, od_isN, od_notN, od_inS, od_ninS, od_tup, od_lst, od_dnT, od_lenS, od_lenT, od_lenQ, od_ixT, od_ixQ, od_min, od_int1, od_intB, od_listT, od_tupT, od_cutHQ, List.length_cons, List.length_nil, if_true, true_and, and_true, Bool.not_true, Bool.not_false, Bool.false_eq_true, if_false, ite_true, ite_false, decide_true, decide_false, reduceIte, Option.some.injEq, exists_eq_left', Int.reduceLT, Int.reduceLE, Int.reduceToNat, and_self, true_or, or_true]
            subst c3
            exact z
          · simp only [c3, wpCs, wpC, wpT, wpE, wpEs, wpI, asg1, List.getElem?_cons_zero, List.getElem?_cons_succ, List.set_cons_zero, List.set_cons_succ, od_addI, od_addS, od_sub, od_mulI, od_div, od_mod, od_neg, od_not, od_eqI, od_neI, od_ltI, od_le, od_gt, od_ge, od_isN, od_notN, od_inS, od_ninS, od_tup, od_lst, od_dnT, od_lenS, od_lenT, od_lenQ, od_ixT, od_ixQ, od_min, od_int1, od_intB, od_listT, od_tupT, od_cutHQ, List.length_cons, List.length_nil, if_true, true_and, and_true, Bool.not_true, Bool.not_false, Bool.false_eq_true, if_false, ite_true, ite_false, decide_true, decide_false, reduceIte, Option.some.injEq, exists_eq_left', Int.reduceLT, Int.reduceLE, Int.reduceToNat, and_self, true_or, or_true, od_ixL h1, a2]
            refine sp_name_in (hw w (by simp)) ?_
            by_cases c4 : nameA (.str w) = true
            · rw [if_pos c4]
              simp only [od_ixL h1, a3, wpCs, wpC, wpT, wpE, wpEs, wpI, asg1, List.getElem?_cons_zero, List.getElem?_cons_succ, List.set_cons_zero, List.set_cons_succ, od_addI, od_addS, od_sub, od_mulI, od_div, od_mod, od_neg, od_not, od_eqI, od_neI, od_ltI, od_le, od_gt, od_ge, od_isN, od_notN, od_inS, od_ninS, od_tup, od_lst, od_dnT, od_lenS, od_lenT, od_lenQ, od_ixT, od_ixQ, od_min, od_int1, od_intB, od_listT, od_tupT, od_cutHQ, List.length_cons, List.length_nil, if_true, true_and, and_true, Bool.not_true, Bool.not_false, Bool.false_eq_true, if_false, ite_true, ite_false, decide_true, decide_false, reduceIte, Option.some.injEq, exists_eq_left', Int.reduceLT, Int.reduceLE, Int.reduceToNat, and_self, true_or, or_true]
              refine sp_amount_in (hw m (by simp)) ?_
              by_cases c5 : numW m = true ∧ valW m ≠ 0
              · rw [if_pos c5]
                have lw : legW g t w m = true := by simp [legW, c1, c2, c3, c4, c5.1, c5.2]
                simp only [legL, lw, if_true] at z
                exact ⟨by decide, z⟩
              · rw [if_neg c5]
                have lw : legW g t w m = false := by
                  rw [Bool.eq_false_iff]; intro w'
                  simp only [legW, Bool.and_eq_true] at w'
                  exact c5 ⟨w'.1.2, by simpa using w'.2⟩
                simp only [legL, lw] at z
                exact z
            · rw [if_neg c4]
              have lw : legW g t w m = false := by simp [legW, c4]
              simp only [legL, lw] at z
              exact z
        · rw [if_neg c2]
          have lw : legW g t w m = false := by simp [legW, c2]
          simp only [legL, lw] at z
          exact z
      · rw [if_neg c1]
        have lw : legW g t w m = false := by simp [legW, c1]
        simp only [legL, lw] at z
        exact z
  · have z := hq1 _ g1
    rw [legL_ne h4] at z
    have h4' : ¬ ((ws.length : Int) = 4) := by omega
    simp only [od_lenL h1, wpCs, wpC, wpT, wpE, wpEs, wpI, asg1, List.getElem?_cons_zero, List.getElem?_cons_succ, List.set_cons_zero, List.set_cons_succ, od_addI, od_addS, od_sub, od_mulI, od_div, od_mod, od_neg, od_not, od_eqI, od_neI, od_ltI, od_le, od_gt, od_ge, od_isN, od_notN, od_inS, od_ninS, od_tup, od_lst, od_dnT, od_lenS, od_lenT, od_lenQ, od_ixT, od_ixQ, od_min, od_int1, od_intB, od_listT, od_tupT, od_cutHQ, List.length_cons, List.length_nil, if_true, true_and, and_true, Bool.not_true, Bool.not_false, Bool.false_eq_true, if_false, ite_true, ite_false, decide_true, decide_false, reduceIte, Option.some.injEq, exists_eq_left', Int.reduceLT, Int.reduceLE, Int.reduceToNat, and_self, true_or, or_true, List.length_map, h4']
    exact z
theorem dig_snoc (cs : List Nat) (c : Nat) : NumText.digitsVal (cs ++ [c]) = NumText.digitsVal cs * 10 + (c - 48) := by
  unfold NumText.digitsVal
  rw [List.foldl_append]; rfl
theorem dig_lt : ∀ (k : Nat) (cs : List Nat), cs.length = k → (∀ c ∈ cs, 48 ≤ c ∧ c ≤ 57) → NumText.digitsVal cs < 10 ^ k
  | 0, cs, h, _ => by
    rw [List.length_eq_zero_iff.mp h]; decide
  | k + 1, cs, h, hd => by
    have hne : cs ≠ [] := fun e => by rw [e] at h; cases h
    obtain ⟨l, c, rfl⟩ : ∃ l c, cs = l ++ [c] := ⟨_, _, (List.dropLast_concat_getLast hne).symm⟩
    have := dig_lt k l (by simpa using h) fun z hz => hd z (by simp [hz])
    have hc := hd c (by simp)
    rw [dig_snoc, Nat.pow_succ]
    omega
theorem val_lt {s : List Nat} (h1 : s.length ≤ 60) (h2 : ∀ c ∈ s, c ∈ s26) : valW s < T60 := by
  have h := dig_lt _ s rfl fun c hc => figs.mp (h2 c hc)
  have h3 : 10 ^ s.length ≤ 10 ^ 60 := Nat.pow_le_pow_right (by decide) h1
  have h4 : NumText.digitsVal s < 10 ^ 60 := Nat.lt_of_lt_of_le h h3
  unfold valW
  have e : (T60 : Int) = ((10 ^ 60 : Nat) : Int) := by decide
  rw [e]
  exact Int.ofNat_lt.mpr h4
theorem val_nn {s : List Nat} : 0 ≤ valW s := Int.natCast_nonneg _
theorem numW_facts {s : List Nat} (h : numW s = true) : s ≠ [] ∧ s.length ≤ 60 ∧ ∀ c ∈ s, c ∈ s26 := by
  simp only [numW, Bool.and_eq_true, decide_eq_true_eq, List.all_eq_true] at h
  exact ⟨h.1.1.1, h.1.1.2, h.1.2⟩
theorem legP_leg {t : List Nat} {d : D} (h : legP t = some d) : LegD d := by
  unfold legP at h
  generalize wds t = ws at h
  match ws, h with
  | [g, t, w, m], h =>
    simp only [legL] at h
    split at h
    · rename_i e
      simp only [legW, Bool.and_eq_true, Bool.not_eq_true', decide_eq_false_iff_not] at e
      have hv : valW m < T60 := by
        have e1 := numW_facts e.1.2
        exact val_lt e1.2.1 e1.2.2
      have hv0 : 0 ≤ valW m := Int.natCast_nonneg _
      have := e.2
      exact ⟨⟨g, t, w, valW m, (Option.some.inj h).symm, e.1.1.1.1.1, e.1.1.1.1.2, e.1.1.1.2, e.1.1.2, by omega, hv⟩⟩
    · cases h
  | [], h => cases h
  | [_], h => cases h
  | [_, _], h => cases h
  | [_, _, _], h => cases h
  | _ :: _ :: _ :: _ :: _ :: _, h => cases h
/-! ### instances made -/
theorem set_last {c e : Ob} : (S ++ [c]).set S.length e = S ++ [e] := by simp
theorem st1 {C : Calls} {T : Cms} {k f c : Nat} {v : D} {ρ : Mp.Env} {fs : List (Nat × D)} {K : Kt} (h0 : ρ[0]? = some (some (.ref S.length))) (hk : ρ[k]? = some (some v)) (hf : fs.length < 1000)
    (h : wpCs TT C none T ρ (S ++ [.ins c (putN f v fs)]) K EX) : wpCs TT C none (.cons (.setA (.var 0) f (.var k)) T) ρ (S ++ [.ins c fs]) K EX := by
  simp only [wpCs, wpC, wpE, h0, hk, at_push]
  exact ⟨hf, by rw [set_last]; exact h⟩
theorem ini_Lay : TT.ini 13 = some 27 := rfl
theorem ini_Take : TT.ini 14 = some 29 := rfl
theorem ini_Line : TT.ini 15 = some 31 := rfl
theorem ini_Offer : TT.ini 16 = some 33 := rfl
theorem ini_Off : TT.ini 17 = some 35 := rfl
theorem ini_Put : TT.ini 18 = some 37 := rfl
theorem ini_Bell : TT.ini 19 = none := rfl
theorem in_Lay {c : Nat} (h : Q .non (S ++ [.ins c [(1, x), (2, y)]])) : wpCall TT FT (n + 1) 27 [.ref S.length, x, y] (S ++ [.ins c []]) Q EX := by
  rw [call_Lay___init__]
  exact ⟨rfl, st1 rfl rfl (by simp [putN]) (st1 rfl rfl (by simp [putN]) h)⟩
theorem in_Take {c : Nat} (h : Q .non (S ++ [.ins c [(1, x), (2, y)]])) : wpCall TT FT (n + 1) 29 [.ref S.length, x, y] (S ++ [.ins c []]) Q EX := by
  rw [call_Take___init__]
  exact ⟨rfl, st1 rfl rfl (by simp [putN]) (st1 rfl rfl (by simp [putN]) h)⟩
theorem in_Line {c : Nat} (h : Q .non (S ++ [.ins c [(1, x), (3, y)]])) : wpCall TT FT (n + 1) 31 [.ref S.length, x, y] (S ++ [.ins c []]) Q EX := by
  rw [call_Line___init__]
  exact ⟨rfl, st1 rfl rfl (by simp [putN]) (st1 rfl rfl (by simp [putN]) h)⟩
theorem in_Offer {c : Nat} (h : Q .non (S ++ [.ins c [(4, x)]])) : wpCall TT FT (n + 1) 33 [.ref S.length, x] (S ++ [.ins c []]) Q EX := by
  rw [call_Offer___init__]
  exact ⟨rfl, st1 rfl rfl (by simp [putN]) h⟩
theorem in_Off {c : Nat} (h : Q .non (S ++ [.ins c [(5, x)]])) : wpCall TT FT (n + 1) 35 [.ref S.length, x] (S ++ [.ins c []]) Q EX := by
  rw [call_Off___init__]
  exact ⟨rfl, st1 rfl rfl (by simp [putN]) h⟩
theorem in_Put {c : Nat} {z : D} (h : Q .non (S ++ [.ins c [(1, x), (5, y), (6, z)]])) : wpCall TT FT (n + 1) 37 [.ref S.length, x, y, z] (S ++ [.ins c []]) Q EX := by
  rw [call_Put___init__]
  exact ⟨rfl, st1 rfl rfl (by simp [putN]) (st1 rfl rfl (by simp [putN]) (st1 rfl rfl (by simp [putN]) h))⟩
/-! ### rows of words -/
/-- a deed: its class and what it holds -/
abbrev Dd := Option (Nat × List (Nat × D))
def shelfL (w0 w1 w2 w3 : List Nat) : Dd :=
  if (nameA (.str w1) && nameA (.str w2)) = true then
    (if w0 = s6 then (if numW w3 = true ∧ valW w3 ≠ 0 then some (13, [(1, .tup [.str w1, .str w2]), (2, .int (valW w3))]) else none)
    else if w0 = s5 then (if numW w3 = true ∧ valW w3 ≠ 0 then some (14, [(1, .tup [.str w1, .str w2]), (2, .int (valW w3))]) else none)
    else if w0 = s4 then (if numW w3 = true then some (15, [(1, .tup [.str w1, .str w2]), (3, .int (valW w3))]) else none)
    else none)
  else none
def wordsP : List (List Nat) → Dd
  | [w0] => if w0 = s9 then some (19, []) else none
  | [w0, w1] => if w0 = s8 then (if nameA (.str w1) = true then some (17, [(5, .str w1)]) else none) else none
  | [w0, w1, w2, w3] => shelfL w0 w1 w2 w3
  | [w0, w1, w2, w3, w4] => if w0 = s7 then (if (nameA (.str w1) && nameA (.str w2) && nameA (.str w3) && numW w4) = true then some (18, [(1, .tup [.str w1, .str w2]), (5, .str w3), (6, .int (valW w4))]) else none) else none
  | _ => none
/-- the answer: an instance, or the refusal -/
def ansQ (S : Sto) (Q : PQ) (EX : PX) (o : Dd) : Prop := ∀ S', Gr S S' → match o with
  | some (c, fs) => ∀ r, S'[r]? = some (.ins c fs) → S.length ≤ r → Q (.ref r) S'
  | none => EX 9 S'
theorem ansQ.gr {S S' : Sto} {Q : PQ} {EX : PX} {o : Dd} (h : ansQ S Q EX o) (g : Gr S S') : ansQ S' Q EX o := fun S2 g2 => by
  have z := h S2 (g.trans g2)
  have := g.len
  cases o with
  | none => exact z
  | some p => exact fun r hr hl => z r hr (by omega)
theorem ansQ.mk {S : Sto} {Q : PQ} {EX : PX} {c : Nat} {fs : List (Nat × D)} (h : ansQ S Q EX (some (c, fs))) : Q (.ref S.length) (S ++ [.ins c fs]) :=
  h _ (Gr.push _ _) _ (at_push _ _) (Nat.le_refl _)
theorem ansQ.no {S : Sto} {Q : PQ} {EX : PX} (h : ansQ S Q EX none) : EX 9 S := h S (Gr.refl S)
theorem sp_shelf_deed {r : Nat} {w0 w1 w2 w3 : List Nat} (hr : S[r]? = some (.lst [.str w0, .str w1, .str w2, .str w3])) (hw : ∀ p ∈ [w0, w1, w2, w3], p.length ≤ LIM) (hq : ansQ S Q EX (shelfL w0 w1 w2 w3)) : wpCall TT FT (n + 4) 9 [.ref r] S Q EX := by
  rw [call_shelf_deed]
  refine ⟨rfl, ?_⟩
  unfold b_shelf_deed
  simp only [wpCs, wpC, wpT, wpE, wpEs, wpI, asg1, List.getElem?_cons_zero, List.getElem?_cons_succ, List.set_cons_zero, List.set_cons_succ, od_addI, od_addS, od_sub, od_mulI, od_div, od_mod, od_neg, od_not, od_eqI, od_neI, od_ltI, od_le, od_gt, od_ge, od_isN, od_notN, od_inS, od_ninS, od_tup, od_lst, od_dnT, od_lenS, od_lenT, od_lenQ, od_ixT, od_ixQ, od_min, od_int1, od_intB, od_listT, od_tupT, od_cutHQ, List.length_cons, List.length_nil, if_true, true_and, and_true, Bool.not_true, Bool.not_false, Bool.false_eq_true, if_false, ite_true, ite_false, decide_true, decide_false, reduceIte, Option.some.injEq, exists_eq_left', Int.reduceLT, Int.reduceLE, Int.reduceToNat, and_self, true_or, or_true, od_ixL hr, a1]
  refine sp_name_in (hw w1 (by simp)) ?_
  by_cases c1 : nameA (.str w1) = true
  · rw [if_pos c1]
    simp only [wpCs, wpC, wpT, wpE, wpEs, wpI, asg1, List.getElem?_cons_zero, List.getElem?_cons_succ, List.set_cons_zero, List.set_cons_succ, od_addI, od_addS, od_sub, od_mulI, od_div, od_mod, od_neg, od_not, od_eqI, od_neI, od_ltI, od_le, od_gt, od_ge, od_isN, od_notN, od_inS, od_ninS, od_tup, od_lst, od_dnT, od_lenS, od_lenT, od_lenQ, od_ixT, od_ixQ, od_min, od_int1, od_intB, od_listT, od_tupT, od_cutHQ, List.length_cons, List.length_nil, if_true, true_and, and_true, Bool.not_true, Bool.not_false, Bool.false_eq_true, if_false, ite_true, ite_false, decide_true, decide_false, reduceIte, Option.some.injEq, exists_eq_left', Int.reduceLT, Int.reduceLE, Int.reduceToNat, and_self, true_or, or_true, od_ixL hr, a2]
    refine sp_name_in (hw w2 (by simp)) ?_
    by_cases c2 : nameA (.str w2) = true
    · rw [if_pos c2]
      simp only [shelfL, c1, c2, Bool.and_true, if_true] at hq
      simp only [wpCs, wpC, wpT, wpE, wpEs, wpI, asg1, List.getElem?_cons_zero, List.getElem?_cons_succ, List.set_cons_zero, List.set_cons_succ, od_addI, od_addS, od_sub, od_mulI, od_div, od_mod, od_neg, od_not, od_eqI, od_neI, od_ltI, od_le, od_gt, od_ge, od_isN, od_notN, od_inS, od_ninS, od_tup, od_lst, od_dnT, od_lenS, od_lenT, od_lenQ, od_ixT, od_ixQ, od_min, od_int1, od_intB, od_listT, od_tupT, od_cutHQ, List.length_cons, List.length_nil, if_true, true_and, and_true, Bool.not_true, Bool.not_false, Bool.false_eq_true, if_false, ite_true, ite_false, decide_true, decide_false, reduceIte, Option.some.injEq, exists_eq_left', Int.reduceLT, Int.reduceLE, Int.reduceToNat, and_self, true_or, or_true, od_ixL hr, a0, od_eqS]
      refine ⟨by decide, ?_⟩
      by_cases k1 : w0 = s6
      · rw [if_pos k1] at hq
        simp only [k1, wpCs, wpC, wpT, wpE, wpEs, wpI, asg1, List.getElem?_cons_zero, List.getElem?_cons_succ, List.set_cons_zero, List.set_cons_succ, od_addI, od_addS, od_sub, od_mulI, od_div, od_mod, od_neg, od_not, od_eqI, od_neI, od_ltI, od_le, od_gt, od_ge, od_isN, od_notN, od_inS, od_ninS, od_tup, od_lst, od_dnT, od_lenS, od_lenT, od_lenQ, od_ixT, od_ixQ, od_min, od_int1, od_intB, od_listT, od_tupT, od_cutHQ, List.length_cons, List.length_nil, if_true, true_and, and_true, Bool.not_true, Bool.not_false, Bool.false_eq_true, if_false, ite_true, ite_false, decide_true, decide_false, reduceIte, Option.some.injEq, exists_eq_left', Int.reduceLT, Int.reduceLE, Int.reduceToNat, and_self, true_or, or_true, od_ixL hr, a3]
        refine sp_amount_in (hw w3 (by simp)) ?_
        by_cases c3 : numW w3 = true ∧ valW w3 ≠ 0
        · rw [if_pos c3] at hq ⊢
          simp only [ini_Lay]
          exact in_Lay ⟨rfl, hq.mk⟩
        · rw [if_neg c3] at hq ⊢
          exact hq.no
      · rw [if_neg k1] at hq
        simp only [k1, wpCs, wpC, wpT, wpE, wpEs, wpI, asg1, List.getElem?_cons_zero, List.getElem?_cons_succ, List.set_cons_zero, List.set_cons_succ, od_addI, od_addS, od_sub, od_mulI, od_div, od_mod, od_neg, od_not, od_eqI, od_neI, od_ltI, od_le, od_gt, od_ge, od_isN, od_notN, od_inS, od_ninS, od_tup, od_lst, od_dnT, od_lenS, od_lenT, od_lenQ, od_ixT, od_ixQ, od_min, od_int1, od_intB, od_listT, od_tupT, od_cutHQ, List.length_cons, List.length_nil, if_true, true_and, and_true, Bool.not_true, Bool.not_false, Bool.false_eq_true, if_false, ite_true, ite_false, decide_true, decide_false, reduceIte, Option.some.injEq, exists_eq_left', Int.reduceLT, Int.reduceLE, Int.reduceToNat, and_self, true_or, or_true, od_ixL hr, a0, od_eqS]
        by_cases k2 : w0 = s5
        · rw [if_pos k2] at hq
          simp only [k2, wpCs, wpC, wpT, wpE, wpEs, wpI, asg1, List.getElem?_cons_zero, List.getElem?_cons_succ, List.set_cons_zero, List.set_cons_succ, od_addI, od_addS, od_sub, od_mulI, od_div, od_mod, od_neg, od_not, od_eqI, od_neI, od_ltI, od_le, od_gt, od_ge, od_isN, od_notN, od_inS, od_ninS, od_tup, od_lst, od_dnT, od_lenS, od_lenT, od_lenQ, od_ixT, od_ixQ, od_min, od_int1, od_intB, od_listT, od_tupT, od_cutHQ, List.length_cons, List.length_nil, if_true, true_and, and_true, Bool.not_true, Bool.not_false, Bool.false_eq_true, if_false, ite_true, ite_false, decide_true, decide_false, reduceIte, Option.some.injEq, exists_eq_left', Int.reduceLT, Int.reduceLE, Int.reduceToNat, and_self, true_or, or_true, od_ixL hr, a3]
          refine sp_amount_in (hw w3 (by simp)) ?_
          by_cases c3 : numW w3 = true ∧ valW w3 ≠ 0
          · rw [if_pos c3] at hq ⊢
            simp only [ini_Take]
            exact in_Take ⟨rfl, hq.mk⟩
          · rw [if_neg c3] at hq ⊢
            exact hq.no
        · rw [if_neg k2] at hq
          simp only [k2, wpCs, wpC, wpT, wpE, wpEs, wpI, asg1, List.getElem?_cons_zero, List.getElem?_cons_succ, List.set_cons_zero, List.set_cons_succ, od_addI, od_addS, od_sub, od_mulI, od_div, od_mod, od_neg, od_not, od_eqI, od_neI, od_ltI, od_le, od_gt, od_ge, od_isN, od_notN, od_inS, od_ninS, od_tup, od_lst, od_dnT, od_lenS, od_lenT, od_lenQ, od_ixT, od_ixQ, od_min, od_int1, od_intB, od_listT, od_tupT, od_cutHQ, List.length_cons, List.length_nil, if_true, true_and, and_true, Bool.not_true, Bool.not_false, Bool.false_eq_true, if_false, ite_true, ite_false, decide_true, decide_false, reduceIte, Option.some.injEq, exists_eq_left', Int.reduceLT, Int.reduceLE, Int.reduceToNat, and_self, true_or, or_true, od_ixL hr, a0, od_eqS]
          by_cases k3 : w0 = s4
          · rw [if_pos k3] at hq
            simp only [k3, wpCs, wpC, wpT, wpE, wpEs, wpI, asg1, List.getElem?_cons_zero, List.getElem?_cons_succ, List.set_cons_zero, List.set_cons_succ, od_addI, od_addS, od_sub, od_mulI, od_div, od_mod, od_neg, od_not, od_eqI, od_neI, od_ltI, od_le, od_gt, od_ge, od_isN, od_notN, od_inS, od_ninS, od_tup, od_lst, od_dnT, od_lenS, od_lenT, od_lenQ, od_ixT, od_ixQ, od_min, od_int1, od_intB, od_listT, od_tupT, od_cutHQ, List.length_cons, List.length_nil, if_true, true_and, and_true, Bool.not_true, Bool.not_false, Bool.false_eq_true, if_false, ite_true, ite_false, decide_true, decide_false, reduceIte, Option.some.injEq, exists_eq_left', Int.reduceLT, Int.reduceLE, Int.reduceToNat, and_self, true_or, or_true, od_ixL hr, a3]
            refine sp_number_in (hw w3 (by simp)) ?_
            by_cases c3 : numW w3 = true
            · rw [if_pos c3] at hq ⊢
              simp only [ini_Line]
              exact in_Line ⟨rfl, hq.mk⟩
            · rw [if_neg c3] at hq ⊢
              exact hq.no
          · rw [if_neg k3] at hq
            simp only [k3, wpCs, wpC, wpT, wpE, wpEs, wpI, asg1, List.getElem?_cons_zero, List.getElem?_cons_succ, List.set_cons_zero, List.set_cons_succ, od_addI, od_addS, od_sub, od_mulI, od_div, od_mod, od_neg, od_not, od_eqI, od_neI, od_ltI, od_le, od_gt, od_ge, od_isN, od_notN, od_inS, od_ninS, od_tup, od_lst, od_dnT, od_lenS, od_lenT, od_lenQ, od_ixT, od_ixQ, od_min, od_int1, od_intB, od_listT, od_tupT, od_cutHQ, List.length_cons, List.length_nil, if_true, true_and, and_true, Bool.not_true, Bool.not_false, Bool.false_eq_true, if_false, ite_true, ite_false, decide_true, decide_false, reduceIte, Option.some.injEq, exists_eq_left', Int.reduceLT, Int.reduceLE, Int.reduceToNat, and_self, true_or, or_true]
            exact hq.no
    · rw [if_neg c2]
      rw [show shelfL w0 w1 w2 w3 = none by simp [shelfL, c2]] at hq
      exact hq.no
  · rw [if_neg c1]
    rw [show shelfL w0 w1 w2 w3 = none by simp [shelfL, c1]] at hq
    exact hq.no
/-! ### bodies cut -/
def dropC : Nat → Cms → Cms
  | 0, c => c
  | n + 1, .cons _ r => dropC n r
  | _ + 1, .nil => .nil
/-- the first k, then T -/
def catC : Nat → Cms → Cms → Cms
  | 0, _, T => T
  | n + 1, .cons s r, T => .cons s (catC n r T)
  | _ + 1, .nil, T => T
theorem at_0 {α : Type} {a : α} {l : List α} : L2.atI (a :: l) 0 = some a := by rw [atI_nn (by decide) (by simp)]; rfl
theorem at_1 {α : Type} {a b : α} {l : List α} : L2.atI (a :: b :: l) 1 = some b := by rw [atI_nn (by decide) (by simp; omega)]; rfl
theorem at_2 {α : Type} {a b c : α} {l : List α} : L2.atI (a :: b :: c :: l) 2 = some c := by rw [atI_nn (by decide) (by simp; omega)]; rfl
theorem at_3 {α : Type} {a b c d : α} {l : List α} : L2.atI (a :: b :: c :: d :: l) 3 = some d := by rw [atI_nn (by decide) (by simp; omega)]; rfl
theorem at_4 {α : Type} {a b c d e : α} {l : List α} : L2.atI (a :: b :: c :: d :: e :: l) 4 = some e := by rw [atI_nn (by decide) (by simp; omega)]; rfl
theorem and_test {C : Calls} {A T : Cms} {s w0 : List Nat} {k : Int} {r : Nat} {l : List D} {ρ : Mp.Env} {K : Kt} (h1 : ρ[1]? = some (some (.ref r))) (hr : S[r]? = some (.lst (.str w0 :: l)))
    (h : if w0 = s ∧ ((l.length + 1 : Nat) : Int) = k then wpCs TT C none A ρ S { K with nx := fun ρ' S' => wpCs TT C none T ρ' S' K EX } EX else wpCs TT C none T ρ S K EX) :
    wpCs TT C none (.cons (.ite (.and (.op .eq (.cons (.op .ix (.cons (.var 1) (.cons (.cst (.int 0)) .nil))) (.cons (.cst (.str s)) .nil))) (.op .eq (.cons (.op .len (.cons (.var 1) .nil)) (.cons (.cst (.int k)) .nil)))) A .nil) T) ρ S K EX := by
  rw [wpCs, wpC]
  simp only [wpT, wpE, wpEs, h1, od_ixL hr, at_0]
  refine ⟨_, rfl, ?_⟩
  rw [od_eqS]
  by_cases k1 : w0 = s
  · simp only [k1, decide_true]
    simp only [od_lenL hr, od_eqI, List.length_cons]
    by_cases k2 : ((l.length + 1 : Nat) : Int) = k
    · rw [if_pos ⟨k1, k2⟩] at h
      simp only [k2, decide_true, if_true]
      exact h
    · rw [if_neg (fun z => k2 z.2)] at h
      simp only [k2, decide_false, Bool.false_eq_true, if_false]
      exact h
  · rw [if_neg (fun z => k1 z.1)] at h
    simp only [k1, decide_false, Bool.false_eq_true, if_false]
    exact h
theorem wordsP_no {w0 : List Nat} {l : List (List Nat)} (h1 : w0 :: l ≠ [s9]) (h2 : ¬ (w0 = s8 ∧ l.length + 1 = 2)) (h5 : ¬ (w0 = s7 ∧ l.length + 1 = 5)) (h4 : l.length + 1 ≠ 4) : wordsP (w0 :: l) = none := by
  match l, h1, h2, h5, h4 with
  | [], h1, _, _, _ =>
    have : w0 ≠ s9 := fun e => h1 (by rw [e])
    simp [wordsP, this]
  | [_], _, h2, _, _ =>
    have : w0 ≠ s8 := fun e => h2 ⟨e, rfl⟩
    simp [wordsP, this]
  | [_, _], _, _, _, _ => rfl
  | [_, _, _], _, _, _, h4 => exact absurd rfl h4
  | [_, _, _, _], _, _, h5, _ =>
    have : w0 ≠ s7 := fun e => h5 ⟨e, rfl⟩
    simp [wordsP, this]
  | _ :: _ :: _ :: _ :: _ :: _, _, _, _, _ => rfl
theorem rd_head {C : Calls} {T : Cms} {t : List Nat} {K : Kt} (hl : t.length ≤ LN) (h5 : t.take 5 ≠ s10) (hb : wds t = [s9] → ∀ S', Gr S S' → K.rt (.ref S'.length) (S' ++ [.ins 19 []]))
    (hq : wds t ≠ [s9] → ∀ S' r, Gr S S' → S'[r]? = some (.lst ((wds t).map .str)) → wpCs TT C none T [some (.str t), some (.ref r), none] S' K EX) : wpCs TT C none (catC 4 b_read T) [some (.str t), none, none] S K EX := by
  have hl1 : t.length ≤ LIM := by show t.length ≤ 16777216; have : t.length ≤ 1000000 := hl; omega
  have hl' : t.length + 2 ≤ LIM := by show t.length + 2 ≤ 16777216; have : t.length ≤ 1000000 := hl; omega
  have tks : ∀ S, tyOk .split S (.str t) = true := fun _ => rfl
  have e : TL.spl s2 0 [] t = wds t := rfl
  simp only [b_read, catC]
  generalize wds t = ws at e hb hq
  simp only [wpCs, wpC, wpT, wpE, wpEs, wpI, asg1, List.getElem?_cons_zero, List.getElem?_cons_succ, List.set_cons_zero, List.set_cons_succ, od_addI, od_addS, od_sub, od_mulI, od_div, od_mod, od_neg, od_not, od_eqI, od_neI, od_ltI, od_le, od_gt, od_ge, od_isN, od_notN, od_inS, od_ninS, od_tup, od_lst, od_dnT, od_lenS, od_lenT, od_lenQ, od_ixT, od_ixQ, od_min, od_int1, od_intB, od_listT, od_tupT, od_cutHQ, List.length_cons, List.length_nil, if_true, true_and, and_true, Bool.not_true, Bool.not_false, Bool.false_eq_true, if_false, ite_true, ite_false, decide_true, decide_false, reduceIte, Option.some.injEq, exists_eq_left', Int.reduceLT, Int.reduceLE, Int.reduceToNat, and_self, true_or, or_true, isS, Ty.le, od_cutHS hl1, od_eqS, show (5 : Int).toNat = 5 from rfl, h5, tks, od_split b32 hl', e, ini_Bell]
  refine ⟨by decide, ?_⟩
  have g1 : Gr S (S ++ [.lst (ws.map .str)]) := Gr.push _ _
  have g2 := Gr.push (S ++ [.lst (ws.map .str)]) [.lst [.str s9]]
  rw [od_eq]
  refine ⟨_, eq_strs (ss := ws) (t := [s9]) (g2 _ _ (at_push _ _)) (at_push _ _), ?_⟩
  by_cases k : ws = [s9]
  · simp only [k, wpCs, wpC, wpT, wpE, wpEs, wpI, asg1, List.getElem?_cons_zero, List.getElem?_cons_succ, List.set_cons_zero, List.set_cons_succ, od_addI, od_addS, od_sub, od_mulI, od_div, od_mod, od_neg, od_not, od_eqI, od_neI, od_ltI, od_le, od_gt, od_ge, od_isN, od_notN, od_inS, od_ninS, od_tup, od_lst, od_dnT, od_lenS, od_lenT, od_lenQ, od_ixT, od_ixQ, od_min, od_int1, od_intB, od_listT, od_tupT, od_cutHQ, List.length_cons, List.length_nil, if_true, true_and, and_true, Bool.not_true, Bool.not_false, Bool.false_eq_true, if_false, ite_true, ite_false, decide_true, decide_false, reduceIte, Option.some.injEq, exists_eq_left', Int.reduceLT, Int.reduceLE, Int.reduceToNat, and_self, true_or, or_true]
    have := hb k _ (g1.trans g2)
    rw [k] at this
    exact this
  · simp only [k, wpCs, wpC, wpT, wpE, wpEs, wpI, asg1, List.getElem?_cons_zero, List.getElem?_cons_succ, List.set_cons_zero, List.set_cons_succ, od_addI, od_addS, od_sub, od_mulI, od_div, od_mod, od_neg, od_not, od_eqI, od_neI, od_ltI, od_le, od_gt, od_ge, od_isN, od_notN, od_inS, od_ninS, od_tup, od_lst, od_dnT, od_lenS, od_lenT, od_lenQ, od_ixT, od_ixQ, od_min, od_int1, od_intB, od_listT, od_tupT, od_cutHQ, List.length_cons, List.length_nil, if_true, true_and, and_true, Bool.not_true, Bool.not_false, Bool.false_eq_true, if_false, ite_true, ite_false, decide_true, decide_false, reduceIte, Option.some.injEq, exists_eq_left', Int.reduceLT, Int.reduceLE, Int.reduceToNat, and_self, true_or, or_true]
    exact hq k _ _ (g1.trans g2) (g2 _ _ (at_push _ _))
theorem sp_read_words {t : List Nat} (hl : t.length ≤ LN) (h5 : t.take 5 ≠ s10) (hq : ansQ S Q EX (wordsP (wds t))) : wpCall TT FT (n + 6) 10 [.str t] S Q EX := by
  rw [call_read]
  refine ⟨rfl, ?_⟩
  show wpCs TT (wpCall TT FT (n + 5)) none (catC 4 b_read (dropC 4 b_read)) [some (.str t), none, none] S (Kc Q) EX
  have hw : ∀ p ∈ wds t, p.length ≤ LIM := fun p hp => by
    have := spl_len _ _ _ _ _ hp
    have h2 : t.length ≤ 1000000 := hl
    simp at this; show p.length ≤ 16777216; omega
  have hne : wds t ≠ [] := spl_ne _ _ _ _
  refine rd_head hl h5 (fun hb S' g => ?_) (fun hb S' r g hr => ?_)
  · rw [hb] at hq
    exact (hq.gr g).mk
  generalize wds t = ws at hw hq hb hr hne
  obtain ⟨w0, l, rfl⟩ : ∃ w0 l, ws = w0 :: l := by
    cases ws with
    | nil => exact absurd rfl hne
    | cons c t => exact ⟨c, t, rfl⟩
  replace hq := hq.gr g
  have hr' := hr
  rw [List.map_cons] at hr
  refine and_test rfl hr ?_
  by_cases k1 : w0 = s8 ∧ (((l.map D.str).length + 1 : Nat) : Int) = 2
  · rw [if_pos k1]
    obtain ⟨rfl, k1⟩ := k1
    have : l.length = 1 := by simp at k1; omega
    match l, this with
    | [w1], _ =>
      simp only [List.map_cons, List.map_nil] at hr
      simp only [wordsP, if_true] at hq
      simp only [wpCs, wpC, wpT, wpE, wpEs, wpI, asg1, List.getElem?_cons_zero, List.getElem?_cons_succ, List.set_cons_zero, List.set_cons_succ, od_addI, od_addS, od_sub, od_mulI, od_div, od_mod, od_neg, od_not, od_eqI, od_neI, od_ltI, od_le, od_gt, od_ge, od_isN, od_notN, od_inS, od_ninS, od_tup, od_lst, od_dnT, od_lenS, od_lenT, od_lenQ, od_ixT, od_ixQ, od_min, od_int1, od_intB, od_listT, od_tupT, od_cutHQ, List.length_cons, List.length_nil, if_true, true_and, and_true, Bool.not_true, Bool.not_false, Bool.false_eq_true, if_false, ite_true, ite_false, decide_true, decide_false, reduceIte, Option.some.injEq, exists_eq_left', Int.reduceLT, Int.reduceLE, Int.reduceToNat, and_self, true_or, or_true, od_ixL hr, at_1]
      refine sp_name_in (hw w1 (by simp)) ?_
      by_cases c1 : nameA (.str w1) = true
      · rw [if_pos c1] at hq ⊢
        simp only [ini_Off]
        exact in_Off ⟨rfl, hq.mk⟩
      · rw [if_neg c1] at hq ⊢
        exact hq.no
  rw [if_neg k1]
  refine and_test rfl hr ?_
  by_cases k2 : w0 = s7 ∧ (((l.map D.str).length + 1 : Nat) : Int) = 5
  · rw [if_pos k2]
    obtain ⟨rfl, k2⟩ := k2
    have : l.length = 4 := by simp at k2; omega
    match l, this with
    | [w1, w2, w3, w4], _ =>
      simp only [List.map_cons, List.map_nil] at hr
      simp only [wordsP, if_true] at hq
      simp only [wpCs, wpC, wpT, wpE, wpEs, wpI, asg1, List.getElem?_cons_zero, List.getElem?_cons_succ, List.set_cons_zero, List.set_cons_succ, od_addI, od_addS, od_sub, od_mulI, od_div, od_mod, od_neg, od_not, od_eqI, od_neI, od_ltI, od_le, od_gt, od_ge, od_isN, od_notN, od_inS, od_ninS, od_tup, od_lst, od_dnT, od_lenS, od_lenT, od_lenQ, od_ixT, od_ixQ, od_min, od_int1, od_intB, od_listT, od_tupT, od_cutHQ, List.length_cons, List.length_nil, if_true, true_and, and_true, Bool.not_true, Bool.not_false, Bool.false_eq_true, if_false, ite_true, ite_false, decide_true, decide_false, reduceIte, Option.some.injEq, exists_eq_left', Int.reduceLT, Int.reduceLE, Int.reduceToNat, and_self, true_or, or_true, od_ixL hr, at_1]
      refine sp_name_in (hw w1 (by simp)) ?_
      by_cases c1 : nameA (.str w1) = true
      · rw [if_pos c1]
        simp only [wpCs, wpC, wpT, wpE, wpEs, wpI, asg1, List.getElem?_cons_zero, List.getElem?_cons_succ, List.set_cons_zero, List.set_cons_succ, od_addI, od_addS, od_sub, od_mulI, od_div, od_mod, od_neg, od_not, od_eqI, od_neI, od_ltI, od_le, od_gt, od_ge, od_isN, od_notN, od_inS, od_ninS, od_tup, od_lst, od_dnT, od_lenS, od_lenT, od_lenQ, od_ixT, od_ixQ, od_min, od_int1, od_intB, od_listT, od_tupT, od_cutHQ, List.length_cons, List.length_nil, if_true, true_and, and_true, Bool.not_true, Bool.not_false, Bool.false_eq_true, if_false, ite_true, ite_false, decide_true, decide_false, reduceIte, Option.some.injEq, exists_eq_left', Int.reduceLT, Int.reduceLE, Int.reduceToNat, and_self, true_or, or_true, od_ixL hr, at_2]
        refine sp_name_in (hw w2 (by simp)) ?_
        by_cases c2 : nameA (.str w2) = true
        · rw [if_pos c2]
          simp only [wpCs, wpC, wpT, wpE, wpEs, wpI, asg1, List.getElem?_cons_zero, List.getElem?_cons_succ, List.set_cons_zero, List.set_cons_succ, od_addI, od_addS, od_sub, od_mulI, od_div, od_mod, od_neg, od_not, od_eqI, od_neI, od_ltI, od_le, od_gt, od_ge, od_isN, od_notN, od_inS, od_ninS, od_tup, od_lst, od_dnT, od_lenS, od_lenT, od_lenQ, od_ixT, od_ixQ, od_min, od_int1, od_intB, od_listT, od_tupT, od_cutHQ, List.length_cons, List.length_nil, if_true, true_and, and_true, Bool.not_true, Bool.not_false, Bool.false_eq_true, if_false, ite_true, ite_false, decide_true, decide_false, reduceIte, Option.some.injEq, exists_eq_left', Int.reduceLT, Int.reduceLE, Int.reduceToNat, and_self, true_or, or_true, od_ixL hr, at_3]
          refine ⟨by decide, ?_⟩
          refine sp_name_in (hw w3 (by simp)) ?_
          by_cases c3 : nameA (.str w3) = true
          · rw [if_pos c3]
            simp only [wpCs, wpC, wpT, wpE, wpEs, wpI, asg1, List.getElem?_cons_zero, List.getElem?_cons_succ, List.set_cons_zero, List.set_cons_succ, od_addI, od_addS, od_sub, od_mulI, od_div, od_mod, od_neg, od_not, od_eqI, od_neI, od_ltI, od_le, od_gt, od_ge, od_isN, od_notN, od_inS, od_ninS, od_tup, od_lst, od_dnT, od_lenS, od_lenT, od_lenQ, od_ixT, od_ixQ, od_min, od_int1, od_intB, od_listT, od_tupT, od_cutHQ, List.length_cons, List.length_nil, if_true, true_and, and_true, Bool.not_true, Bool.not_false, Bool.false_eq_true, if_false, ite_true, ite_false, decide_true, decide_false, reduceIte, Option.some.injEq, exists_eq_left', Int.reduceLT, Int.reduceLE, Int.reduceToNat, and_self, true_or, or_true, od_ixL hr, at_4]
            refine sp_number_in (hw w4 (by simp)) ?_
            by_cases c4 : numW w4 = true
            · rw [if_pos c4]
              simp only [c1, c2, c3, c4, Bool.and_true, if_true] at hq
              simp only [ini_Put]
              exact in_Put ⟨rfl, hq.mk⟩
            · rw [if_neg c4]
              rw [if_neg (by simp [c4])] at hq
              exact hq.no
          · rw [if_neg c3]
            rw [if_neg (by simp [c3])] at hq
            exact hq.no
        · rw [if_neg c2]
          rw [if_neg (by simp [c2])] at hq
          exact hq.no
      · rw [if_neg c1]
        rw [if_neg (by simp [c1])] at hq
        exact hq.no
  rw [if_neg k2]
  by_cases k3 : l.length + 1 = 4
  · match l, k3 with
    | [w1, w2, w3], _ =>
      simp only [List.map_cons, List.map_nil] at hr
      simp only [wpCs, wpC, wpT, wpE, wpEs, wpI, asg1, List.getElem?_cons_zero, List.getElem?_cons_succ, List.set_cons_zero, List.set_cons_succ, od_addI, od_addS, od_sub, od_mulI, od_div, od_mod, od_neg, od_not, od_eqI, od_neI, od_ltI, od_le, od_gt, od_ge, od_isN, od_notN, od_inS, od_ninS, od_tup, od_lst, od_dnT, od_lenS, od_lenT, od_lenQ, od_ixT, od_ixQ, od_min, od_int1, od_intB, od_listT, od_tupT, od_cutHQ, List.length_cons, List.length_nil, if_true, true_and, and_true, Bool.not_true, Bool.not_false, Bool.false_eq_true, if_false, ite_true, ite_false, decide_true, decide_false, reduceIte, Option.some.injEq, exists_eq_left', Int.reduceLT, Int.reduceLE, Int.reduceToNat, and_self, true_or, or_true, od_lenL hr]
      exact sp_shelf_deed hr hw hq
  · rw [wordsP_no hb (fun z => k1 ⟨z.1, by have := z.2; simp; omega⟩) (fun z => k2 ⟨z.1, by have := z.2; simp; omega⟩) k3] at hq
    have k3' : ¬ (((l.length + 1 : Nat) : Int) = 4) := by omega
    simp only [wpCs, wpC, wpT, wpE, wpEs, wpI, asg1, List.getElem?_cons_zero, List.getElem?_cons_succ, List.set_cons_zero, List.set_cons_succ, od_addI, od_addS, od_sub, od_mulI, od_div, od_mod, od_neg, od_not, od_eqI, od_neI, od_ltI, od_le, od_gt, od_ge, od_isN, od_notN, od_inS, od_ninS, od_tup, od_lst, od_dnT, od_lenS, od_lenT, od_lenQ, od_ixT, od_ixQ, od_min, od_int1, od_intB, od_listT, od_tupT, od_cutHQ, List.length_cons, List.length_nil, if_true, true_and, and_true, Bool.not_true, Bool.not_false, Bool.false_eq_true, if_false, ite_true, ite_false, decide_true, decide_false, reduceIte, Option.some.injEq, exists_eq_left', Int.reduceLT, Int.reduceLE, Int.reduceToNat, and_self, true_or, or_true, od_lenL hr, List.length_map, k3']
    exact hq.no
/-! ### an offer read -/
theorem c_0 {a b c : D} : L2.atI [a, b, c] 0 = some a := rfl
theorem c_2 {a b c : D} : L2.atI [a, b, c] 2 = some c := rfl
def lgs (t : List Nat) : List (List Nat) := TL.spl [44, 32] 0 [] t
def legOf : D → D
  | .str p => (legP p).getD .non
  | _ => .non
theorem legs_ok {ps : List (List Nat)} (h : ∀ p ∈ ps, (legP p).isSome = true) : ∀ z ∈ (ps.map D.str).map legOf, LegD z := fun z hz => by
  obtain ⟨y, hy, rfl⟩ := List.mem_map.mp hz
  obtain ⟨p, hp, rfl⟩ := List.mem_map.mp hy
  obtain ⟨d, hd⟩ := Option.isSome_iff_exists.mp (h p hp)
  simp only [legOf, hd, Option.getD_some]
  exact legP_leg hd
/-- what an offer's text reads -/
def legsR (nm rest : List Nat) : Dd :=
  if (nameA (.str nm) && (lgs rest).all (fun p => (legP p).isSome) && decide ((lgs rest).length ≤ 8)) = true then some (16, [(4, .tup [.str nm, .tup (((lgs rest).map .str).map legOf)])]) else none
def offerP (t : List Nat) : Dd := match TL.par [32] [] t with
  | some (nm, rest) => legsR nm rest
  | none => none
/-- what a row reads -/
def readP (t : List Nat) : Dd := if t.take 5 = s10 then offerP (t.drop 5) else wordsP (wds t)
/-- a comprehension that reads texts, some of which are refused -/
theorem compN_rd (P : List Nat → Option D) {EX1 : Sto → Prop} {r : Nat} {stand : Sto → Prop} {turn : D → Sto → (Option D → Sto → Prop) → Prop} {k : Sto → Prop} {S0 : Sto} (hr : S0.length ≤ r) (hst : ∀ S, Gr S0 S → stand S) :
    ∀ (ps : List (List Nat)) (acc : List D) (S : Sto), (∀ p ∈ ps, ∀ S kk, Gr S0 S → (∀ S2, Gr S S2 → match P p with | some d => kk (some d) S2 | none => EX1 S2) → turn (.str p) S kk) → Gr S0 S → S[r]? = some (.lst acc) → acc.length + ps.length ≤ 2000000 →
    (if ps.all (fun p => (P p).isSome) = true then ∀ S, Gr S0 S → S[r]? = some (.lst (acc ++ ps.map fun p => (P p).getD .non)) → k S else ∀ S, Gr S0 S → EX1 S) → compN r stand turn k (ps.map .str) acc S
  | [], acc, S, ht, g, h, hl, hk => by
    simp only [List.all_nil, if_true, List.map_nil, List.append_nil] at hk
    exact ⟨hst S g, h, hk S g h⟩
  | p :: ps, acc, S, ht, g, h, hl, hk => by
    simp only [List.length_cons] at hl
    refine ⟨hst S g, h, ht p (by simp) S _ g fun S2 g2 => ?_⟩
    cases e : P p with
    | none =>
      rw [if_neg (by simp [e])] at hk
      exact hk S2 (g.trans g2)
    | some d =>
      refine ⟨g2 _ _ h, by show acc.length < 16777216; omega, ?_⟩
      refine compN_rd P hr hst ps (acc ++ [d]) _ (fun q hq => ht q (by simp [hq])) ((g.trans g2).set hr) (at_set (g2 _ _ h)) (by simp; omega) ?_
      simp only [List.all_cons, e, Option.isSome_some, Bool.true_and, List.map_cons, Option.getD_some] at hk
      split
      · rename_i c
        rw [if_pos c] at hk
        intro S' g' h'
        refine hk S' g' ?_
        rw [h']; simp
      · rename_i c
        rw [if_neg c] at hk
        exact hk
theorem par_split (b : List Nat) : ∀ (a acc x y : List Nat), TL.par b acc a = some (x, y) → x.length + y.length ≤ acc.length + a.length
  | [], acc, x, y, h => by unfold TL.par at h; cases h
  | z :: r, acc, x, y, h => by
    unfold TL.par at h
    split at h
    · cases h
      simp
    · have := par_split b r _ _ _ h
      simp at this ⊢; omega
theorem sp_offer_any {t : List Nat} (hl : t.length ≤ LN) (hq : ansQ S Q EX (offerP t)) : wpCall TT FT (n + 5) 8 [.str t] S Q EX := by
  rw [call_offer_in]
  refine ⟨rfl, ?_⟩
  unfold b_offer_in
  have hl0 : t.length ≤ 1000000 := hl
  have hl1 : t.length ≤ LIM := by show _ ≤ 16777216; omega
  have e32 : s2 = [32] := rfl
  have tkp : ∀ S a, tyOk .partition S (.str a) = true := fun _ _ => rfl
  have tks : ∀ S a, tyOk .split S (.str a) = true := fun _ _ => rfl
  -- the parts, whichever they are
  have go : ∀ nm sep rest, nm.length + rest.length ≤ 1000000 → (rest = [] ∧ offerP t = none ∨ offerP t = legsR nm rest) → wpCs TT (wpCall TT FT (n + 4)) none (dropC 1 b_offer_in) [some (.str t), some (.tup [.str nm, .str sep, .str rest]), none, none, none] S (Kc Q) EX := by
    intro nm sep rest hlen hoff
    simp only [b_offer_in, dropC]
    simp only [wpCs, wpC, wpT, wpE, wpEs, wpI, asg1, List.getElem?_cons_zero, List.getElem?_cons_succ, List.set_cons_zero, List.set_cons_succ, od_ixT, c_0]
    refine ⟨_, rfl, ?_⟩
    have hnl : nm.length ≤ LIM := by show _ ≤ 16777216; omega
    refine sp_name_in hnl ?_
    by_cases hn : nameA (.str nm) = true
    · rw [if_pos hn]
      have hl2 : rest.length + 2 ≤ LIM := by show _ ≤ 16777216; omega
      have hpl : ∀ p ∈ lgs rest, p.length ≤ LN := fun p hp => by
        have := spl_len _ _ _ _ _ hp
        simp at this; show _ ≤ 1000000; omega
      have hpn : lgs rest ≠ [] := spl_ne _ _ _ _
      have hpc : (lgs rest).length ≤ rest.length + 1 := spl_count _ _ _ _
      have e : TL.spl s3 0 [] rest = lgs rest := rfl
      have hbad : ¬ (lgs rest).all (fun p => (legP p).isSome) = true ∨ 8 < (lgs rest).length → offerP t = none := by
        intro hb
        rcases hoff with ⟨_, h⟩ | h
        · exact h
        · rw [h]
          unfold legsR
          rw [if_neg]
          intro hc
          simp only [Bool.and_eq_true, decide_eq_true_eq] at hc
          rcases hb with hb | hb
          · exact hb hc.1.2
          · omega
      have hgood : (lgs rest).all (fun p => (legP p).isSome) = true → (lgs rest).length ≤ 8 → offerP t = some (16, [(4, .tup [.str nm, .tup (((lgs rest).map .str).map legOf)])]) := by
        intro h1 h2
        rcases hoff with ⟨h, _⟩ | h
        · subst h
          have z : (lgs []).all (fun p => (legP p).isSome) = false := by decide
          rw [z] at h1; cases h1
        · rw [h]
          unfold legsR
          rw [if_pos]
          simp only [hn, h1, h2, decide_true, Bool.and_self]
      generalize lgs rest = ps at e hpl hpn hpc hbad hgood
      have h1 := at_push S (.lst (ps.map .str))
      simp only [wpCs, wpC, wpT, wpE, wpEs, wpI, asg1, List.getElem?_cons_zero, List.getElem?_cons_succ, List.set_cons_zero, List.set_cons_succ, od_addI, od_addS, od_sub, od_mulI, od_div, od_mod, od_neg, od_not, od_eqI, od_neI, od_ltI, od_le, od_gt, od_ge, od_isN, od_notN, od_inS, od_ninS, od_tup, od_lst, od_dnT, od_lenS, od_lenT, od_lenQ, od_ixT, od_ixQ, od_min, od_int1, od_intB, od_listT, od_tupT, od_cutHQ, List.length_cons, List.length_nil, if_true, true_and, and_true, Bool.not_true, Bool.not_false, Bool.false_eq_true, if_false, ite_true, ite_false, decide_true, decide_false, reduceIte, Option.some.injEq, exists_eq_left', Int.reduceLT, Int.reduceLE, Int.reduceToNat, and_self, true_or, or_true, c_2, tks, od_split b44 hl2, e, wk_lst h1]
      have hps : 1 ≤ ps.length := List.length_pos_iff.mpr hpn
      refine compN_rd legP (EX1 := EX 9) (Nat.le_refl _) (fun S' g => sq_lst (g _ _ h1)) ps [] _ (fun p hp S' kk g hk => ?_) (Gr.push _ _) (at_push _ _) (by simp; omega) ?_
      · refine sp_leg_in (hpl p hp) fun S2 g2 => ?_
        have := hk S2 g2
        cases e : legP p with
        | none => rw [e] at this; exact this
        | some d => rw [e] at this; exact this
      · split
        · rename_i hall
          intro S' g h'
          have emap : [] ++ ps.map (fun p => (legP p).getD .non) = (ps.map D.str).map legOf := by
            rw [List.map_map]; rfl
          rw [emap] at h'
          have g' : Gr S S' := (Gr.push _ _).trans g
          by_cases h8 : ps.length ≤ 8
          · have hlen8 : ¬ ((8 : Int) < ((ps.map D.str).map legOf).length) := by simp; omega
            simp only [od_lenL h', wpCs, wpC, wpT, wpE, wpEs, wpI, asg1, List.getElem?_cons_zero, List.getElem?_cons_succ, List.set_cons_zero, List.set_cons_succ, od_addI, od_addS, od_sub, od_mulI, od_div, od_mod, od_neg, od_not, od_eqI, od_neI, od_ltI, od_le, od_gt, od_ge, od_isN, od_notN, od_inS, od_ninS, od_tup, od_lst, od_dnT, od_lenS, od_lenT, od_lenQ, od_ixT, od_ixQ, od_min, od_int1, od_intB, od_listT, od_tupT, od_cutHQ, List.length_cons, List.length_nil, if_true, true_and, and_true, Bool.not_true, Bool.not_false, Bool.false_eq_true, if_false, ite_true, ite_false, decide_true, decide_false, reduceIte, Option.some.injEq, exists_eq_left', Int.reduceLT, Int.reduceLE, Int.reduceToNat, and_self, true_or, or_true, hlen8]
            refine sp_deal_of hn h' (legs_ok fun p hp => List.all_eq_true.mp hall p hp) (by simp; omega) (by simp; omega) ?_
            simp only [ini_Offer]
            rw [hgood hall h8] at hq
            exact in_Offer ⟨rfl, (hq.gr g').mk⟩
          · have hlen8 : ((8 : Int) < ((ps.map D.str).map legOf).length) := by simp; omega
            simp only [od_lenL h', wpCs, wpC, wpT, wpE, wpEs, wpI, asg1, List.getElem?_cons_zero, List.getElem?_cons_succ, List.set_cons_zero, List.set_cons_succ, od_addI, od_addS, od_sub, od_mulI, od_div, od_mod, od_neg, od_not, od_eqI, od_neI, od_ltI, od_le, od_gt, od_ge, od_isN, od_notN, od_inS, od_ninS, od_tup, od_lst, od_dnT, od_lenS, od_lenT, od_lenQ, od_ixT, od_ixQ, od_min, od_int1, od_intB, od_listT, od_tupT, od_cutHQ, List.length_cons, List.length_nil, if_true, true_and, and_true, Bool.not_true, Bool.not_false, Bool.false_eq_true, if_false, ite_true, ite_false, decide_true, decide_false, reduceIte, Option.some.injEq, exists_eq_left', Int.reduceLT, Int.reduceLE, Int.reduceToNat, and_self, true_or, or_true, hlen8]
            rw [hbad (.inr (by omega))] at hq
            exact (hq.gr g').no
        · rename_i hall
          intro S' g
          rw [hbad (.inl hall)] at hq
          exact (hq.gr ((Gr.push _ _).trans g)).no
    · rw [if_neg hn]
      have : offerP t = none := by
        rcases hoff with ⟨_, h⟩ | h
        · exact h
        · rw [h]; unfold legsR; rw [if_neg (by simp [hn])]
      rw [this] at hq
      exact hq.no
  cases hpar : TL.par [32] [] t with
  | some pq =>
    obtain ⟨nm, rest⟩ := pq
    have hp2 : TL.par s2 [] t = some (nm, rest) := hpar
    have hs := par_split _ _ _ _ _ hpar
    have := go nm s2 rest (by simp at hs; omega) (.inr (by unfold offerP; rw [hpar]))
    simp only [b_offer_in, dropC] at this
    rw [wpCs, wpC]
    simp only [wpE, wpEs, List.getElem?_cons_zero, tkp, true_and]
    rw [od_part b32 hl1 hp2]
    exact this
  | none =>
    have hp2 : TL.par s2 [] t = none := hpar
    have := go t [] [] (by simp; omega) (.inl ⟨rfl, by unfold offerP; rw [hpar]⟩)
    simp only [b_offer_in, dropC] at this
    rw [wpCs, wpC]
    simp only [wpE, wpEs, List.getElem?_cons_zero, tkp, true_and]
    rw [od_partN b32 hl1 hp2]
    exact this
theorem sp_read_any {t : List Nat} (hl : t.length ≤ LN) (hq : ansQ S Q EX (readP t)) : wpCall TT FT (n + 6) 10 [.str t] S Q EX := by
  by_cases h5 : t.take 5 = s10
  · rw [show readP t = offerP (t.drop 5) by unfold readP; rw [if_pos h5]] at hq
    rw [call_read]
    refine ⟨rfl, ?_⟩
    show wpCs TT (wpCall TT FT (n + 5)) none (catC 2 b_read (dropC 2 b_read)) [some (.str t), none, none] S (Kc Q) EX
    generalize dropC 2 b_read = T
    have hl0 : t.length ≤ 1000000 := hl
    have hl1 : t.length ≤ LIM := by show _ ≤ 16777216; omega
    simp only [b_read, catC]
    generalize hC : wpCall TT FT (n + 5) = C
    simp only [wpCs, wpC, wpT, wpE, wpEs, wpI, asg1, List.getElem?_cons_zero, List.getElem?_cons_succ, List.set_cons_zero, List.set_cons_succ, od_addI, od_addS, od_sub, od_mulI, od_div, od_mod, od_neg, od_not, od_eqI, od_neI, od_ltI, od_le, od_gt, od_ge, od_isN, od_notN, od_inS, od_ninS, od_tup, od_lst, od_dnT, od_lenS, od_lenT, od_lenQ, od_ixT, od_ixQ, od_min, od_int1, od_intB, od_listT, od_tupT, od_cutHQ, List.length_cons, List.length_nil, if_true, true_and, and_true, Bool.not_true, Bool.not_false, Bool.false_eq_true, if_false, ite_true, ite_false, decide_true, decide_false, reduceIte, Option.some.injEq, exists_eq_left', Int.reduceLT, Int.reduceLE, Int.reduceToNat, and_self, true_or, or_true, isS, Ty.le, od_cutHS hl1, od_cutLS hl1, od_eqS, show (5 : Int).toNat = 5 from rfl, h5]
    rw [← hC]
    have fin := sp_offer_any (n := n) (t := t.drop 5) (by show _ ≤ 1000000; simp; omega) hq
    first | exact fin | exact And.intro (by decide) fin
  · rw [show readP t = wordsP (wds t) by unfold readP; rw [if_neg h5]] at hq
    exact sp_read_words hl h5 hq
/-! ### the law's makers -/
theorem sp_cell_at {ns : List Int} {i : Int} (h0 : 0 ≤ i) (hl : ns.length ≤ 63) (hq : ∀ v, Q (.int v) S) : wpCall TT FT (n + 1) 11 [.lis (ns.map .int), .int i] S Q EX := by
  rw [call__law_cell_at]
  refine ⟨rfl, ?_⟩
  unfold b__law_cell_at
  by_cases h : i < (ns.map D.int).length
  · simp only [wpCs, wpC, wpT, wpE, wpEs, wpI, asg1, List.getElem?_cons_zero, List.getElem?_cons_succ, List.set_cons_zero, List.set_cons_succ, od_addI, od_addS, od_sub, od_mulI, od_div, od_mod, od_neg, od_not, od_eqI, od_neI, od_ltI, od_le, od_gt, od_ge, od_isN, od_notN, od_inS, od_ninS, od_tup, od_lst, od_dnT, od_lenS, od_lenT, od_lenQ, od_ixT, od_ixQ, od_min, od_int1, od_intB, od_listT, od_tupT, od_cutHQ, List.length_cons, List.length_nil, if_true, true_and, and_true, Bool.not_true, Bool.not_false, Bool.false_eq_true, if_false, ite_true, ite_false, decide_true, decide_false, reduceIte, Option.some.injEq, exists_eq_left', Int.reduceLT, Int.reduceLE, Int.reduceToNat, and_self, true_or, or_true, h]
    refine ⟨_, atI_nn h0 h, ?_⟩
    rw [List.getElem_map]
    exact hq _
  · simp only [wpCs, wpC, wpT, wpE, wpEs, wpI, asg1, List.getElem?_cons_zero, List.getElem?_cons_succ, List.set_cons_zero, List.set_cons_succ, od_addI, od_addS, od_sub, od_mulI, od_div, od_mod, od_neg, od_not, od_eqI, od_neI, od_ltI, od_le, od_gt, od_ge, od_isN, od_notN, od_inS, od_ninS, od_tup, od_lst, od_dnT, od_lenS, od_lenT, od_lenQ, od_ixT, od_ixQ, od_min, od_int1, od_intB, od_listT, od_tupT, od_cutHQ, List.length_cons, List.length_nil, if_true, true_and, and_true, Bool.not_true, Bool.not_false, Bool.false_eq_true, if_false, ite_true, ite_false, decide_true, decide_false, reduceIte, Option.some.injEq, exists_eq_left', Int.reduceLT, Int.reduceLE, Int.reduceToNat, and_self, true_or, or_true, h]
    exact hq _
theorem at_al {i : Int} (h0 : 0 ≤ i) (h : i < 26) : ∃ c, c ∈ s11 ∧ L2.atI s11 i = some c := by
  refine ⟨_, ?_, atI_nn h0 (by show i < 26; exact h)⟩
  exact List.getElem_mem _
theorem sp_name {c : Int} (hq : ∀ s S', Gr S S' → nameA (.str s) = true → Q (.str s) S') : wpCall TT FT (n + 1) 12 [.int c] S Q EX := by
  rw [call__law_name]
  refine ⟨rfl, ?_⟩
  unfold b__law_name
  have m0 : 0 ≤ c % 2147483647 := Int.emod_nonneg _ (by decide)
  have m1 : c % 2147483647 < 2147483647 := Int.emod_lt_of_pos _ (by decide)
  have k0 : 0 ≤ c % 2147483647 / 5 % 8 := Int.emod_nonneg _ (by decide)
  have k1 : c % 2147483647 / 5 % 8 < 8 := Int.emod_lt_of_pos _ (by decide)
  have z0 : 0 ≤ c / 5 % 13 := Int.emod_nonneg _ (by decide)
  have z1 : c / 5 % 13 < 13 := Int.emod_lt_of_pos _ (by decide)
  by_cases h5 : c % 5 = 1
  · simp only [wpCs, wpC, wpT, wpE, wpEs, wpI, asg1, List.getElem?_cons_zero, List.getElem?_cons_succ, List.set_cons_zero, List.set_cons_succ, od_addI, od_addS, od_sub, od_mulI, od_div, od_mod, od_neg, od_not, od_eqI, od_neI, od_ltI, od_le, od_gt, od_ge, od_isN, od_notN, od_inS, od_ninS, od_tup, od_lst, od_dnT, od_lenS, od_lenT, od_lenQ, od_ixT, od_ixQ, od_min, od_int1, od_intB, od_listT, od_tupT, od_cutHQ, List.length_cons, List.length_nil, if_true, true_and, and_true, Bool.not_true, Bool.not_false, Bool.false_eq_true, if_false, ite_true, ite_false, decide_true, decide_false, reduceIte, Option.some.injEq, exists_eq_left', Int.reduceLT, Int.reduceLE, Int.reduceToNat, and_self, true_or, or_true, h5]
    refine ⟨by decide, ?_⟩
    rw [od_ixL (at_push _ _)]
    have hz : ∀ z : Int, 0 ≤ z → z < 13 → ∃ s, L2.atI [D.str s6, .str s5, .str s4, .str s18, .str s8, .str s7, .str s9, .str s17, .str s16, .str s15, .str s14, .str s13, .str s12] z = some (.str s) ∧ nameA (.str s) = true := by
      intro z h0 h1
      have : z = 0 ∨ z = 1 ∨ z = 2 ∨ z = 3 ∨ z = 4 ∨ z = 5 ∨ z = 6 ∨ z = 7 ∨ z = 8 ∨ z = 9 ∨ z = 10 ∨ z = 11 ∨ z = 12 := by omega
      rcases this with rfl | rfl | rfl | rfl | rfl | rfl | rfl | rfl | rfl | rfl | rfl | rfl | rfl <;> exact ⟨_, rfl, by decide⟩
    obtain ⟨s, e, hs⟩ := hz _ z0 z1
    exact ⟨_, e, hq _ _ (Gr.push _ _) hs⟩
  · simp only [wpCs, wpC, wpT, wpE, wpEs, wpI, asg1, List.getElem?_cons_zero, List.getElem?_cons_succ, List.set_cons_zero, List.set_cons_succ, od_addI, od_addS, od_sub, od_mulI, od_div, od_mod, od_neg, od_not, od_eqI, od_neI, od_ltI, od_le, od_gt, od_ge, od_isN, od_notN, od_inS, od_ninS, od_tup, od_lst, od_dnT, od_lenS, od_lenT, od_lenQ, od_ixT, od_ixQ, od_min, od_int1, od_intB, od_listT, od_tupT, od_cutHQ, List.length_cons, List.length_nil, if_true, true_and, and_true, Bool.not_true, Bool.not_false, Bool.false_eq_true, if_false, ite_true, ite_false, decide_true, decide_false, reduceIte, Option.some.injEq, exists_eq_left', Int.reduceLT, Int.reduceLE, Int.reduceToNat, and_self, true_or, or_true, h5]
    refine ⟨by decide, by omega, by omega, ?_⟩
    refine foN_ix (P := fun j ρ S' => Gr S S' ∧ ∃ num t y, ρ = [some (.int c), some (.ref S.length), some (.int num), some (.str t), y] ∧ 0 ≤ num ∧ num < 2147483647 ∧ t.length = j ∧ t.all (fun c => decide (c ∈ s11)) = true) (fun _ _ _ _ => trivial) ?_ ?_ _ _ ⟨Gr.push _ _, _, _, _, rfl, m0, m1, rfl, rfl⟩
    · rintro j z ρ S' K' hz ⟨gr, num, t, y, rfl, h0, h1, hl, ht⟩ hnx hrt
      obtain ⟨hj, rfl⟩ := rng_get hz
      refine ⟨_, rfl, ?_⟩
      have e1 : s11.length ≤ LIM := by decide
      simp only [wpCs, wpC, wpT, wpE, wpEs, wpI, asg1, List.getElem?_cons_zero, List.getElem?_cons_succ, List.set_cons_zero, List.set_cons_succ, od_addI, od_addS, od_sub, od_mulI, od_div, od_mod, od_neg, od_not, od_eqI, od_neI, od_ltI, od_le, od_gt, od_ge, od_isN, od_notN, od_inS, od_ninS, od_tup, od_lst, od_dnT, od_lenS, od_lenT, od_lenQ, od_ixT, od_ixQ, od_min, od_int1, od_intB, od_listT, od_tupT, od_cutHQ, List.length_cons, List.length_nil, if_true, true_and, and_true, Bool.not_true, Bool.not_false, Bool.false_eq_true, if_false, ite_true, ite_false, decide_true, decide_false, reduceIte, Option.some.injEq, exists_eq_left', Int.reduceLT, Int.reduceLE, Int.reduceToNat, and_self, true_or, or_true, od_ixS e1]
      have q0 := Int.emod_nonneg ((num * num + 48271 * num + (0 + ↑j * 1) + 7) % 2147483647 / 64) (b := 26) (by decide)
      have q1 := Int.emod_lt_of_pos ((num * num + 48271 * num + (0 + ↑j * 1) + 7) % 2147483647 / 64) (b := 26) (by decide)
      obtain ⟨cc, hc, e⟩ := at_al q0 q1
      refine ⟨.inl (by omega), .inr (by omega), cc, e, ?_⟩
      refine ⟨?_, hnx _ _ ⟨gr, _, _, _, rfl, Int.emod_nonneg _ (by decide), Int.emod_lt_of_pos _ (by decide), by simp [hl], by simp [ht, hc]⟩⟩
      show t.length + 1 ≤ 16777216
      omega
    · rintro ρ S' ⟨gr, num, t, y, rfl, h0, h1, hl, ht⟩
      simp only [wpCs, wpC, wpT, wpE, wpEs, wpI, asg1, List.getElem?_cons_zero, List.getElem?_cons_succ, List.set_cons_zero, List.set_cons_succ, od_addI, od_addS, od_sub, od_mulI, od_div, od_mod, od_neg, od_not, od_eqI, od_neI, od_ltI, od_le, od_gt, od_ge, od_isN, od_notN, od_inS, od_ninS, od_tup, od_lst, od_dnT, od_lenS, od_lenT, od_lenQ, od_ixT, od_ixQ, od_min, od_int1, od_intB, od_listT, od_tupT, od_cutHQ, List.length_cons, List.length_nil, if_true, true_and, and_true, Bool.not_true, Bool.not_false, Bool.false_eq_true, if_false, ite_true, ite_false, decide_true, decide_false, reduceIte, Option.some.injEq, exists_eq_left', Int.reduceLT, Int.reduceLE, Int.reduceToNat, and_self, true_or, or_true]
      refine hq t _ gr ?_
      have hn : (rngItems 0 1 (1 + c % 2147483647 / 5 % 8).toNat).length = (1 + c % 2147483647 / 5 % 8).toNat := by simp [rngItems]
      rw [hn] at hl
      have l1 : 1 ≤ t.length := by omega
      have l2 : t.length ≤ 8 := by omega
      simp [nameA, l1, l2, ht]
theorem sp_amount {c : Int} (hq : ∀ i, 1 ≤ i → i < T60 → Q (.int i) S) : wpCall TT FT (n + 1) 13 [.int c] S Q EX := by
  rw [call__law_amount]
  refine ⟨rfl, ?_⟩
  unfold b__law_amount
  have k0 : 0 ≤ c / 4 % 9 := Int.emod_nonneg _ (by decide)
  have k1 : c / 4 % 9 < 9 := Int.emod_lt_of_pos _ (by decide)
  have j0 : 0 ≤ c / 4 % (T60 - 1) := Int.emod_nonneg _ (by decide)
  have j1 : c / 4 % (T60 - 1) < T60 - 1 := Int.emod_lt_of_pos _ (by decide)
  by_cases h1 : c % 4 = 0
  · simp only [wpCs, wpC, wpT, wpE, wpEs, wpI, asg1, List.getElem?_cons_zero, List.getElem?_cons_succ, List.set_cons_zero, List.set_cons_succ, od_addI, od_addS, od_sub, od_mulI, od_div, od_mod, od_neg, od_not, od_eqI, od_neI, od_ltI, od_le, od_gt, od_ge, od_isN, od_notN, od_inS, od_ninS, od_tup, od_lst, od_dnT, od_lenS, od_lenT, od_lenQ, od_ixT, od_ixQ, od_min, od_int1, od_intB, od_listT, od_tupT, od_cutHQ, List.length_cons, List.length_nil, if_true, true_and, and_true, Bool.not_true, Bool.not_false, Bool.false_eq_true, if_false, ite_true, ite_false, decide_true, decide_false, reduceIte, Option.some.injEq, exists_eq_left', Int.reduceLT, Int.reduceLE, Int.reduceToNat, and_self, true_or, or_true, h1]
    exact hq _ (by omega) (by show _ < (1000000000000000000000000000000000000000000000000000000000000 : Int); omega)
  · by_cases h2 : c % 4 = 1
    · have e : ¬ ((1 : Int) = 0) := by decide
      simp only [wpCs, wpC, wpT, wpE, wpEs, wpI, asg1, List.getElem?_cons_zero, List.getElem?_cons_succ, List.set_cons_zero, List.set_cons_succ, od_addI, od_addS, od_sub, od_mulI, od_div, od_mod, od_neg, od_not, od_eqI, od_neI, od_ltI, od_le, od_gt, od_ge, od_isN, od_notN, od_inS, od_ninS, od_tup, od_lst, od_dnT, od_lenS, od_lenT, od_lenQ, od_ixT, od_ixQ, od_min, od_int1, od_intB, od_listT, od_tupT, od_cutHQ, List.length_cons, List.length_nil, if_true, true_and, and_true, Bool.not_true, Bool.not_false, Bool.false_eq_true, if_false, ite_true, ite_false, decide_true, decide_false, reduceIte, Option.some.injEq, exists_eq_left', Int.reduceLT, Int.reduceLE, Int.reduceToNat, and_self, true_or, or_true, h2, e, p60]
      exact hq _ (by show (1 : Int) ≤ 1000000000000000000000000000000000000000000000000000000000000 - 1 - _; omega) (by show _ < (1000000000000000000000000000000000000000000000000000000000000 : Int); show (1000000000000000000000000000000000000000000000000000000000000 : Int) - 1 - _ < _; omega)
    · simp only [wpCs, wpC, wpT, wpE, wpEs, wpI, asg1, List.getElem?_cons_zero, List.getElem?_cons_succ, List.set_cons_zero, List.set_cons_succ, od_addI, od_addS, od_sub, od_mulI, od_div, od_mod, od_neg, od_not, od_eqI, od_neI, od_ltI, od_le, od_gt, od_ge, od_isN, od_notN, od_inS, od_ninS, od_tup, od_lst, od_dnT, od_lenS, od_lenT, od_lenQ, od_ixT, od_ixQ, od_min, od_int1, od_intB, od_listT, od_tupT, od_cutHQ, List.length_cons, List.length_nil, if_true, true_and, and_true, Bool.not_true, Bool.not_false, Bool.false_eq_true, if_false, ite_true, ite_false, decide_true, decide_false, reduceIte, Option.some.injEq, exists_eq_left', Int.reduceLT, Int.reduceLE, Int.reduceToNat, and_self, true_or, or_true, h1, h2, p60]
      exact ⟨by decide, hq (1 + c / 4 % (T60 - 1)) (by omega) (by omega)⟩
theorem sp_leg {c : Int} (hq : ∀ d S', Gr S S' → LegD d → Q d S') : wpCall TT FT (n + 2) 14 [.int c] S Q EX := by
  rw [call__law_leg]
  refine ⟨rfl, ?_⟩
  unfold b__law_leg
  simp only [wpCs, wpC, wpT, wpE, wpEs, wpI, asg1, List.getElem?_cons_zero, List.getElem?_cons_succ, List.set_cons_zero, List.set_cons_succ, od_addI, od_addS, od_sub, od_mulI, od_div, od_mod, od_neg, od_not, od_eqI, od_neI, od_ltI, od_le, od_gt, od_ge, od_isN, od_notN, od_inS, od_ninS, od_tup, od_lst, od_dnT, od_lenS, od_lenT, od_lenQ, od_ixT, od_ixQ, od_min, od_int1, od_intB, od_listT, od_tupT, od_cutHQ, List.length_cons, List.length_nil, if_true, true_and, and_true, Bool.not_true, Bool.not_false, Bool.false_eq_true, if_false, ite_true, ite_false, decide_true, decide_false, reduceIte, Option.some.injEq, exists_eq_left', Int.reduceLT, Int.reduceLE, Int.reduceToNat, and_self, true_or, or_true]
  refine sp_name fun g S1 gr1 hg => ?_
  refine ⟨.inr (by decide), ?_⟩
  refine sp_name fun t S2 gr2 ht => ?_
  obtain ⟨g1, g2, g3⟩ := name_facts hg
  have gl := name_lim hg
  have fin : ∀ t', nameA (.str t') = true → g ≠ t' → wpCall TT FT (n + 1) 12 [.int (c * 11 + 5)] S2 (fun d S1 => wpCall TT FT (n + 1) 13 [.int (c / 2)] S1 (fun d2 S2 => 0 + 1 + 1 + 1 + 1 ≤ LIM ∧ Q (.tup [.str g, .str t', d, d2]) S2) EX) EX := fun t' h1 h2 =>
    sp_name fun w S3 gr3 hw => sp_amount fun m m1 m2 => ⟨by decide, hq _ _ ((gr1.trans gr2).trans gr3) ⟨g, t', w, m, rfl, hg, h1, h2, hw, m1, m2⟩⟩
  by_cases e : g = t
  · subst e
    match g, g1, g2, g3, hg, gl, fin with
    | h :: tl, g1, g2, g3, hg, gl, fin =>
      have e0 : L2.atI (h :: tl) 0 = some h := at_0
      have tl3 : ∀ c ∈ tl, c ∈ s11 := fun c hc => g3 c (by simp [hc])
      have tll : tl.length ≤ 7 := by simp at g2; omega
      have ea : s19 = [97] := rfl
      have eb : s20 = [98] := rfl
      simp only [wpCs, wpC, wpT, wpE, wpEs, wpI, asg1, List.getElem?_cons_zero, List.getElem?_cons_succ, List.set_cons_zero, List.set_cons_succ, od_addI, od_addS, od_sub, od_mulI, od_div, od_mod, od_neg, od_not, od_eqI, od_neI, od_ltI, od_le, od_gt, od_ge, od_isN, od_notN, od_inS, od_ninS, od_tup, od_lst, od_dnT, od_lenS, od_lenT, od_lenQ, od_ixT, od_ixQ, od_min, od_int1, od_intB, od_listT, od_tupT, od_cutHQ, List.length_cons, List.length_nil, if_true, true_and, and_true, Bool.not_true, Bool.not_false, Bool.false_eq_true, if_false, ite_true, ite_false, decide_true, decide_false, reduceIte, Option.some.injEq, exists_eq_left', Int.reduceLT, Int.reduceLE, Int.reduceToNat, and_self, true_or, or_true, od_eqS, od_ixS gl, e0]
      by_cases eh : h = 97
      · subst eh
        simp only [ea, eb, wpCs, wpC, wpT, wpE, wpEs, wpI, asg1, List.getElem?_cons_zero, List.getElem?_cons_succ, List.set_cons_zero, List.set_cons_succ, od_addI, od_addS, od_sub, od_mulI, od_div, od_mod, od_neg, od_not, od_eqI, od_neI, od_ltI, od_le, od_gt, od_ge, od_isN, od_notN, od_inS, od_ninS, od_tup, od_lst, od_dnT, od_lenS, od_lenT, od_lenQ, od_ixT, od_ixQ, od_min, od_int1, od_intB, od_listT, od_tupT, od_cutHQ, List.length_cons, List.length_nil, if_true, true_and, and_true, Bool.not_true, Bool.not_false, Bool.false_eq_true, if_false, ite_true, ite_false, decide_true, decide_false, reduceIte, Option.some.injEq, exists_eq_left', Int.reduceLT, Int.reduceLE, Int.reduceToNat, and_self, true_or, or_true, od_cutLS gl, od_addS]
        refine ⟨by show 0 + 1 + tl.length ≤ 16777216; omega, .inr (by decide), ?_⟩
        exact fin (98 :: tl) (name_mk (by simp) (by simp; omega) (by
          intro c hc
          rcases List.mem_cons.mp hc with rfl | hc
          · decide
          · exact tl3 c hc)) (by simp)
      · have ne : ¬ [h] = [97] := by simpa using eh
        simp only [ea, eb, ne, wpCs, wpC, wpT, wpE, wpEs, wpI, asg1, List.getElem?_cons_zero, List.getElem?_cons_succ, List.set_cons_zero, List.set_cons_succ, od_addI, od_addS, od_sub, od_mulI, od_div, od_mod, od_neg, od_not, od_eqI, od_neI, od_ltI, od_le, od_gt, od_ge, od_isN, od_notN, od_inS, od_ninS, od_tup, od_lst, od_dnT, od_lenS, od_lenT, od_lenQ, od_ixT, od_ixQ, od_min, od_int1, od_intB, od_listT, od_tupT, od_cutHQ, List.length_cons, List.length_nil, if_true, true_and, and_true, Bool.not_true, Bool.not_false, Bool.false_eq_true, if_false, ite_true, ite_false, decide_true, decide_false, reduceIte, Option.some.injEq, exists_eq_left', Int.reduceLT, Int.reduceLE, Int.reduceToNat, and_self, true_or, or_true, od_cutLS gl, od_addS]
        refine ⟨by show 0 + 1 + tl.length ≤ 16777216; omega, .inr (by decide), ?_⟩
        exact fin (97 :: tl) (name_mk (by simp) (by simp; omega) (by
          intro c hc
          rcases List.mem_cons.mp hc with rfl | hc
          · decide
          · exact tl3 c hc)) (by simpa using eh)
  · simp only [wpCs, wpC, wpT, wpE, wpEs, wpI, asg1, List.getElem?_cons_zero, List.getElem?_cons_succ, List.set_cons_zero, List.set_cons_succ, od_addI, od_addS, od_sub, od_mulI, od_div, od_mod, od_neg, od_not, od_eqI, od_neI, od_ltI, od_le, od_gt, od_ge, od_isN, od_notN, od_inS, od_ninS, od_tup, od_lst, od_dnT, od_lenS, od_lenT, od_lenQ, od_ixT, od_ixQ, od_min, od_int1, od_intB, od_listT, od_tupT, od_cutHQ, List.length_cons, List.length_nil, if_true, true_and, and_true, Bool.not_true, Bool.not_false, Bool.false_eq_true, if_false, ite_true, ite_false, decide_true, decide_false, reduceIte, Option.some.injEq, exists_eq_left', Int.reduceLT, Int.reduceLE, Int.reduceToNat, and_self, true_or, or_true, od_eqS, e]
    exact ⟨.inr (by decide), fin t ht e⟩
/-- a leg's text -/
def legT : D → List Nat
  | .tup [.str g, .str t, .str w, .int m] => TL.joinL [32] [g, t, w, TL.numL m.toNat]
  | _ => []
theorem num_len {m : Int} (h0 : 0 ≤ m) (h : m < T60) : (TL.numL m.toNat).length ≤ 60 := TL.numL_len (by decide) (by
  have : (T60 : Int) = ((10 ^ 60 : Nat) : Int) := by decide
  rw [this] at h
  omega)
theorem legT_len {d : D} (h : LegD d) : (legT d).length ≤ 100 := by
  obtain ⟨g, t, w, m, rfl, hg, ht, hgt, hw, m1, m2⟩ := h.ex
  have := name_facts hg
  have := name_facts ht
  have := name_facts hw
  have := num_len (by omega) m2
  simp [legT, TL.joinL]; omega
theorem sp_leg_text (h : LegD d) (hq : Q (.str (legT d)) S) : wpCall TT FT (n + 1) 15 [d] S Q EX := by
  obtain ⟨g, t, w, m, rfl, hg, ht, hgt, hw, m1, m2⟩ := h.ex
  rw [call__law_leg_text]
  refine ⟨rfl, ?_⟩
  unfold b__law_leg_text
  have := name_facts hg
  have := name_facts ht
  have := name_facts hw
  have := num_len (by omega) m2
  have e32 : s2 = [32] := rfl
  simp only [wpCs, wpC, wpT, wpE, wpEs, wpI, asg1, List.getElem?_cons_zero, List.getElem?_cons_succ, List.set_cons_zero, List.set_cons_succ, od_addI, od_addS, od_sub, od_mulI, od_div, od_mod, od_neg, od_not, od_eqI, od_neI, od_ltI, od_le, od_gt, od_ge, od_isN, od_notN, od_inS, od_ninS, od_tup, od_lst, od_dnT, od_lenS, od_lenT, od_lenQ, od_ixT, od_ixQ, od_min, od_int1, od_intB, od_listT, od_tupT, od_cutHQ, List.length_cons, List.length_nil, if_true, true_and, and_true, Bool.not_true, Bool.not_false, Bool.false_eq_true, if_false, ite_true, ite_false, decide_true, decide_false, reduceIte, Option.some.injEq, exists_eq_left', Int.reduceLT, Int.reduceLE, Int.reduceToNat, and_self, true_or, or_true, a0, a1, a2, a3, od_addS, od_strI (show 0 ≤ m by omega) m2, e32]
  repeat (refine And.intro (by show _ ≤ 16777216; (try simp only [List.length_append, List.length_cons, List.length_nil]); omega) ?_)
  have e : (((((g ++ [32]) ++ t) ++ [32]) ++ w) ++ [32]) ++ TL.numL m.toNat = legT (.tup [.str g, .str t, .str w, .int m]) := by simp [legT, TL.joinL]
  rw [e]; exact hq
/-! ### what is made -/
inductive Made : Int → List D → List Nat → Prop
  | lay {a b : List Nat} {m : Int} : nameA (.str a) = true → nameA (.str b) = true → 1 ≤ m → m < T60 → Made 0 [.tup [.str a, .str b], .int m] (TL.joinL [32] [s6, a, b, TL.numL m.toNat])
  | take {a b : List Nat} {m : Int} : nameA (.str a) = true → nameA (.str b) = true → 1 ≤ m → m < T60 → Made 1 [.tup [.str a, .str b], .int m] (TL.joinL [32] [s5, a, b, TL.numL m.toNat])
  | line {a b : List Nat} {m : Int} : nameA (.str a) = true → nameA (.str b) = true → 0 ≤ m → m < T60 → Made 2 [.tup [.str a, .str b], .int m] (TL.joinL [32] [s4, a, b, TL.numL m.toNat])
  | deal {a : List Nat} {ds : List D} : nameA (.str a) = true → (∀ z ∈ ds, LegD z) → 1 ≤ ds.length → ds.length ≤ 8 → Made 3 [.tup [.str a, .tup ds]] (s10 ++ (a ++ ([32] ++ TL.joinL [44, 32] (ds.map legT))))
  | off {a : List Nat} : nameA (.str a) = true → Made 4 [.str a] (TL.joinL [32] [s8, a])
  | put {a b c : List Nat} {m : Int} : nameA (.str a) = true → nameA (.str b) = true → nameA (.str c) = true → 0 ≤ m → m < T60 → Made 5 [.tup [.str a, .str b], .str c, .int m] (TL.joinL [32] [s7, a, b, c, TL.numL m.toNat])
  | bell : Made 6 [] s9
theorem joinL_len (sep : List Nat) : ∀ ps : List (List Nat), (TL.joinL sep ps).length ≤ (ps.map (·.length)).sum + ps.length * sep.length
  | [] => by simp [TL.joinL]
  | [p] => by simp [TL.joinL]
  | p :: q :: r => by
    have := joinL_len sep (q :: r)
    simp only [TL.joinL, List.length_append, List.map_cons, List.sum_cons, List.length_cons, Nat.add_mul, Nat.one_mul] at this ⊢
    omega
theorem legs_len {ds : List D} (h : ∀ z ∈ ds, LegD z) : ((ds.map legT).map (·.length)).sum ≤ ds.length * 100 := by
  induction ds with
  | nil => simp
  | cons z ds ih =>
    have h1 := legT_len (h z (by simp))
    have h2 := ih fun y hy => h y (by simp [hy])
    simp only [List.map_cons, List.sum_cons, List.length_cons, Nat.add_mul, Nat.one_mul]
    omega
/-- a comprehension whose items are of a kind, its turns leaving new objects -/
theorem compN_alg (P : D → Prop) {r : Nat} {stand : Sto → Prop} {turn : D → Sto → (Option D → Sto → Prop) → Prop} {k : Sto → Prop} {S0 : Sto} (hr : S0.length ≤ r) (hst : ∀ S, Gr S0 S → stand S) :
    ∀ (items acc : List D) (S : Sto), (∀ x ∈ items, ∀ S kk, Gr S0 S → (∀ d S2, Gr S S2 → P d → kk (some d) S2) → turn x S kk) → Gr S0 S → S[r]? = some (.lst acc) → (∀ d ∈ acc, P d) → acc.length + items.length ≤ 1000 →
    (∀ S ds, Gr S0 S → S[r]? = some (.lst ds) → (∀ d ∈ ds, P d) → ds.length = acc.length + items.length → k S) → compN r stand turn k items acc S
  | [], acc, S, ht, g, h, ha, hl, hk => ⟨hst S g, h, hk S acc g h ha (by simp)⟩
  | x :: xs, acc, S, ht, g, h, ha, hl, hk => by
    simp only [List.length_cons] at hl
    refine ⟨hst S g, h, ht x (by simp) S _ g fun d S2 g2 hd => ⟨g2 _ _ h, by show acc.length < 16777216; omega, ?_⟩⟩
    refine compN_alg P hr hst xs (acc ++ [d]) _ (fun y hy => ht y (by simp [hy])) ((g.trans g2).set hr) (at_set (g2 _ _ h)) ?_ (by simp; omega) fun S' ds g' h' hp e => hk S' ds g' h' hp ?_
    · intro z hz
      rcases List.mem_append.mp hz with hz | hz
      · exact ha z hz
      · rw [List.mem_singleton.mp hz]; exact hd
    · rw [e]; simp; omega
theorem b_0 {a b : D} : L2.atI [a, b] 0 = some a := rfl
theorem b_1 {a b : D} : L2.atI [a, b] 1 = some b := rfl
theorem mk_head {T : Cms} {head one two : Int} {K : Kt} (h : ∀ a b m S', Gr S S' → nameA (.str a) = true → nameA (.str b) = true → 1 ≤ m → m < T60 →
    wpCs TT (wpCall TT FT (n + 2)) none T [some (.int head), some (.int one), some (.int two), some (.int (head % 7)), some (.tup [.str a, .str b]), some (.str (((a ++ [32]) ++ b) ++ [32])), some (.int m), none, none, none, none, none, none, none] S' K EX) :
    wpCs TT (wpCall TT FT (n + 2)) none (catC 4 b__law_made T) [some (.int head), some (.int one), some (.int two), none, none, none, none, none, none, none, none, none, none, none] S K EX := by
  have e32 : s2 = [32] := rfl
  simp only [b__law_made, catC]
  simp only [wpCs, wpC, wpT, wpE, wpEs, wpI, asg1, List.getElem?_cons_zero, List.getElem?_cons_succ, List.set_cons_zero, List.set_cons_succ, od_addI, od_addS, od_sub, od_mulI, od_div, od_mod, od_neg, od_not, od_eqI, od_neI, od_ltI, od_le, od_gt, od_ge, od_isN, od_notN, od_inS, od_ninS, od_tup, od_lst, od_dnT, od_lenS, od_lenT, od_lenQ, od_ixT, od_ixQ, od_min, od_int1, od_intB, od_listT, od_tupT, od_cutHQ, List.length_cons, List.length_nil, if_true, true_and, and_true, Bool.not_true, Bool.not_false, Bool.false_eq_true, if_false, ite_true, ite_false, decide_true, decide_false, reduceIte, Option.some.injEq, exists_eq_left', Int.reduceLT, Int.reduceLE, Int.reduceToNat, and_self, true_or, or_true]
  refine sp_name fun a S1 g1 ha => ?_
  refine ⟨.inr (by decide), ?_⟩
  refine sp_name fun b S2 g2 hb => ?_
  have := name_facts ha
  have := name_facts hb
  simp only [wpCs, wpC, wpT, wpE, wpEs, wpI, asg1, List.getElem?_cons_zero, List.getElem?_cons_succ, List.set_cons_zero, List.set_cons_succ, od_addI, od_addS, od_sub, od_mulI, od_div, od_mod, od_neg, od_not, od_eqI, od_neI, od_ltI, od_le, od_gt, od_ge, od_isN, od_notN, od_inS, od_ninS, od_tup, od_lst, od_dnT, od_lenS, od_lenT, od_lenQ, od_ixT, od_ixQ, od_min, od_int1, od_intB, od_listT, od_tupT, od_cutHQ, List.length_cons, List.length_nil, if_true, true_and, and_true, Bool.not_true, Bool.not_false, Bool.false_eq_true, if_false, ite_true, ite_false, decide_true, decide_false, reduceIte, Option.some.injEq, exists_eq_left', Int.reduceLT, Int.reduceLE, Int.reduceToNat, and_self, true_or, or_true, b_0, b_1, od_addS, e32]
  repeat (refine And.intro (by show _ ≤ 16777216; (try simp only [List.length_append, List.length_cons, List.length_nil]); omega) ?_)
  refine sp_amount fun m m1 m2 => ?_
  exact h a b m S2 (g1.trans g2) ha hb m1 m2
theorem sp_made {head one two : Int} (hq : ∀ kind things text S', Gr S S' → Made kind things text → Q (.tup [.int kind, .tup things, .str text]) S') : wpCall TT FT (n + 3) 16 [.int head, .int one, .int two] S Q EX := by
  rw [call__law_made]
  refine ⟨rfl, ?_⟩
  show wpCs TT (wpCall TT FT (n + 2)) none (catC 4 b__law_made (dropC 4 b__law_made)) _ S (Kc Q) EX
  refine mk_head fun a b m S1 g ha hb m1 m2 => ?_
  have fa := name_facts ha
  have fb := name_facts hb
  have fm := num_len (show 0 ≤ m by omega) m2
  have hm := od_strI (S := S1) (Q := Q) (show 0 ≤ m by omega) m2
  have k0 : 0 ≤ head % 7 := Int.emod_nonneg _ (by decide)
  have k1 : head % 7 < 7 := Int.emod_lt_of_pos _ (by decide)
  generalize head % 7 = kind at k0 k1
  simp only [b__law_made, dropC]
  have : kind = 0 ∨ kind = 1 ∨ kind = 2 ∨ kind = 3 ∨ kind = 4 ∨ kind = 5 ∨ kind = 6 := by omega
  rcases this with rfl | rfl | rfl | rfl | rfl | rfl | rfl
  · have e : ∀ x, (s25 ++ (((a ++ [32]) ++ b) ++ [32])) ++ x = TL.joinL [32] [s6, a, b, x] := fun x => by simp [TL.joinL, s25, s6]
    have l1 : s25.length = 4 := rfl
    have hm := fun S Q => od_strI (S := S) (Q := Q) (show 0 ≤ m by omega) m2
    simp only [wpCs, wpC, wpT, wpE, wpEs, wpI, asg1, List.getElem?_cons_zero, List.getElem?_cons_succ, List.set_cons_zero, List.set_cons_succ, od_addI, od_addS, od_sub, od_mulI, od_div, od_mod, od_neg, od_not, od_eqI, od_neI, od_ltI, od_le, od_gt, od_ge, od_isN, od_notN, od_inS, od_ninS, od_tup, od_lst, od_dnT, od_lenS, od_lenT, od_lenQ, od_ixT, od_ixQ, od_min, od_int1, od_intB, od_listT, od_tupT, od_cutHQ, List.length_cons, List.length_nil, if_true, true_and, and_true, Bool.not_true, Bool.not_false, Bool.false_eq_true, if_false, ite_true, ite_false, decide_true, decide_false, reduceIte, Option.some.injEq, exists_eq_left', Int.reduceLT, Int.reduceLE, Int.reduceToNat, and_self, true_or, or_true, b_0, b_1]
    refine ⟨by decide, by decide, ?_⟩
    rw [od_ixL (at_push _ _)]
    refine ⟨_, rfl, ?_⟩
    simp only [od_addS, hm, e]
    repeat (refine And.intro (by show _ ≤ 16777216; (try simp only [List.length_append, List.length_cons, List.length_nil]); omega) ?_)
    exact hq _ _ _ _ (g.trans (Gr.push _ _)) (.lay ha hb m1 m2)
  · have e : ∀ x, (s24 ++ (((a ++ [32]) ++ b) ++ [32])) ++ x = TL.joinL [32] [s5, a, b, x] := fun x => by simp [TL.joinL, s24, s5]
    have l1 : s24.length = 5 := rfl
    have hm := fun S Q => od_strI (S := S) (Q := Q) (show 0 ≤ m by omega) m2
    simp only [wpCs, wpC, wpT, wpE, wpEs, wpI, asg1, List.getElem?_cons_zero, List.getElem?_cons_succ, List.set_cons_zero, List.set_cons_succ, od_addI, od_addS, od_sub, od_mulI, od_div, od_mod, od_neg, od_not, od_eqI, od_neI, od_ltI, od_le, od_gt, od_ge, od_isN, od_notN, od_inS, od_ninS, od_tup, od_lst, od_dnT, od_lenS, od_lenT, od_lenQ, od_ixT, od_ixQ, od_min, od_int1, od_intB, od_listT, od_tupT, od_cutHQ, List.length_cons, List.length_nil, if_true, true_and, and_true, Bool.not_true, Bool.not_false, Bool.false_eq_true, if_false, ite_true, ite_false, decide_true, decide_false, reduceIte, Option.some.injEq, exists_eq_left', Int.reduceLT, Int.reduceLE, Int.reduceToNat, and_self, true_or, or_true, b_0, b_1]
    refine ⟨by decide, by decide, ?_⟩
    rw [od_ixL (at_push _ _)]
    refine ⟨_, rfl, ?_⟩
    simp only [od_addS, hm, e]
    repeat (refine And.intro (by show _ ≤ 16777216; (try simp only [List.length_append, List.length_cons, List.length_nil]); omega) ?_)
    exact hq _ _ _ _ (g.trans (Gr.push _ _)) (.take ha hb m1 m2)
  · have e : ∀ x, (s23 ++ (((a ++ [32]) ++ b) ++ [32])) ++ x = TL.joinL [32] [s4, a, b, x] := fun x => by simp [TL.joinL, s23, s4]
    have l1 : s23.length = 5 := rfl
    simp only [wpCs, wpC, wpT, wpE, wpEs, wpI, asg1, List.getElem?_cons_zero, List.getElem?_cons_succ, List.set_cons_zero, List.set_cons_succ, od_addI, od_addS, od_sub, od_mulI, od_div, od_mod, od_neg, od_not, od_eqI, od_neI, od_ltI, od_le, od_gt, od_ge, od_isN, od_notN, od_inS, od_ninS, od_tup, od_lst, od_dnT, od_lenS, od_lenT, od_lenQ, od_ixT, od_ixQ, od_min, od_int1, od_intB, od_listT, od_tupT, od_cutHQ, List.length_cons, List.length_nil, if_true, true_and, and_true, Bool.not_true, Bool.not_false, Bool.false_eq_true, if_false, ite_true, ite_false, decide_true, decide_false, reduceIte, Option.some.injEq, exists_eq_left', Int.reduceLT, Int.reduceLE, Int.reduceToNat, and_self, true_or, or_true, Int.reduceEq, b_0, b_1]
    refine ⟨by decide, ?_⟩
    rw [od_ixL (at_push _ _)]
    have hz : ∃ z, L2.atI [D.int 0, D.int m] (if decide (0 < two / 9 % 4) = true then 1 else 0) = some (.int z) ∧ 0 ≤ z ∧ z < T60 := by
      split
      · exact ⟨m, rfl, by omega, m2⟩
      · exact ⟨0, rfl, by decide, by decide⟩
    obtain ⟨z, ez, z0, z1⟩ := hz
    have fz := num_len z0 z1
    have hm := fun S Q => od_strI (S := S) (Q := Q) z0 z1
    refine ⟨_, ez, ?_⟩
    simp only [od_addS, hm, e]
    repeat (refine And.intro (by show _ ≤ 16777216; (try simp only [List.length_append, List.length_cons, List.length_nil]); omega) ?_)
    exact hq _ _ _ _ (g.trans (Gr.push _ _)) (.line ha hb z0 z1)
  · have q0 : 0 ≤ head / 7 % 8 := Int.emod_nonneg _ (by decide)
    have q1 : head / 7 % 8 < 8 := Int.emod_lt_of_pos _ (by decide)
    simp only [wpCs, wpC, wpT, wpE, wpEs, wpI, asg1, List.getElem?_cons_zero, List.getElem?_cons_succ, List.set_cons_zero, List.set_cons_succ, od_addI, od_addS, od_sub, od_mulI, od_div, od_mod, od_neg, od_not, od_eqI, od_neI, od_ltI, od_le, od_gt, od_ge, od_isN, od_notN, od_inS, od_ninS, od_tup, od_lst, od_dnT, od_lenS, od_lenT, od_lenQ, od_ixT, od_ixQ, od_min, od_int1, od_intB, od_listT, od_tupT, od_cutHQ, List.length_cons, List.length_nil, if_true, true_and, and_true, Bool.not_true, Bool.not_false, Bool.false_eq_true, if_false, ite_true, ite_false, decide_true, decide_false, reduceIte, Option.some.injEq, exists_eq_left', Int.reduceLT, Int.reduceLE, Int.reduceToNat, and_self, true_or, or_true, Int.reduceEq, b_0, b_1]
    refine ⟨by omega, by omega, ?_⟩
    refine compN_alg LegD (Nat.le_refl S1.length) (fun _ _ => trivial) _ _ _ (fun x hx S2 kk g2 hk => ?_) (Gr.push _ _) (at_push _ _) (fun d hd => nomatch hd) (by simp [rngItems]; omega) fun S2 ds g2 h2 hds hlen => ?_
    · obtain ⟨q, hq', rfl⟩ := mem_rng hx
      simp only [wpCs, wpC, wpT, wpE, wpEs, wpI, asg1, List.getElem?_cons_zero, List.getElem?_cons_succ, List.set_cons_zero, List.set_cons_succ, od_addI, od_addS, od_sub, od_mulI, od_div, od_mod, od_neg, od_not, od_eqI, od_neI, od_ltI, od_le, od_gt, od_ge, od_isN, od_notN, od_inS, od_ninS, od_tup, od_lst, od_dnT, od_lenS, od_lenT, od_lenQ, od_ixT, od_ixQ, od_min, od_int1, od_intB, od_listT, od_tupT, od_cutHQ, List.length_cons, List.length_nil, if_true, true_and, and_true, Bool.not_true, Bool.not_false, Bool.false_eq_true, if_false, ite_true, ite_false, decide_true, decide_false, reduceIte, Option.some.injEq, exists_eq_left', Int.reduceLT, Int.reduceLE, Int.reduceToNat, and_self, true_or, or_true, p62]
      have : (0 + (q : Int) * 1).natAbs < 2 ^ 64 := by omega
      exact ⟨.inl (by decide), .inr this, by decide, sp_leg fun d S3 g3 hd => hk d S3 g3 hd⟩
    · have l1 : s10.length = 5 := rfl
      have l2 : s2.length = 1 := rfl
      have l3 : s3.length = 2 := rfl
      have hdl : (ds.length : Int) = 1 + head / 7 % 8 := by rw [hlen]; simp [rngItems]; omega
      have d1 : 1 ≤ ds.length := by omega
      have d2 : ds.length ≤ 8 := by omega
      repeat (refine And.intro (by show _ ≤ 16777216; (try simp only [List.length_append, List.length_cons, List.length_nil]); omega) ?_)
      refine ⟨rfl, ?_⟩
      simp only [wk_lst h2]
      refine compN_fun (fun d => .str (legT d)) (Nat.le_refl S2.length) (fun S' g => sq_lst (g _ _ h2)) _ _ _ (fun x hx S3 kk g3 hk => sp_leg_text (hds x hx) hk) (Gr.push _ _) (at_push _ _) (by simp; omega) fun S3 g3 h3 => ?_
      have e3 : [] ++ List.map (fun d => D.str (legT d)) ds = (ds.map legT).map D.str := by simp
      rw [e3] at h3
      rw [od_joinL h3]
      have j1 := legs_len hds
      have j2 := joinL_len s3 (ds.map legT)
      simp only [List.length_map, l3] at j2 ⊢
      have h2' := g3 _ _ h2
      simp only [od_addS, od_tupL h2']
      repeat (refine And.intro (by show _ ≤ 16777216; (try simp only [List.length_append, List.length_cons, List.length_nil]); omega) ?_)
      have e5 : (s10 ++ a ++ s2) ++ TL.joinL s3 (ds.map legT) = s10 ++ (a ++ ([32] ++ TL.joinL [44, 32] (ds.map legT))) := by
        simp [show s2 = [32] from rfl, show s3 = [44, 32] from rfl]
      rw [e5]
      exact hq _ _ _ _ ((g.trans g2).trans g3) (.deal ha hds d1 d2)
  · have e : s22 ++ a = TL.joinL [32] [s8, a] := by simp [TL.joinL, s22, s8]
    have l1 : s22.length = 4 := rfl
    simp only [wpCs, wpC, wpT, wpE, wpEs, wpI, asg1, List.getElem?_cons_zero, List.getElem?_cons_succ, List.set_cons_zero, List.set_cons_succ, od_addI, od_addS, od_sub, od_mulI, od_div, od_mod, od_neg, od_not, od_eqI, od_neI, od_ltI, od_le, od_gt, od_ge, od_isN, od_notN, od_inS, od_ninS, od_tup, od_lst, od_dnT, od_lenS, od_lenT, od_lenQ, od_ixT, od_ixQ, od_min, od_int1, od_intB, od_listT, od_tupT, od_cutHQ, List.length_cons, List.length_nil, if_true, true_and, and_true, Bool.not_true, Bool.not_false, Bool.false_eq_true, if_false, ite_true, ite_false, decide_true, decide_false, reduceIte, Option.some.injEq, exists_eq_left', Int.reduceLT, Int.reduceLE, Int.reduceToNat, and_self, true_or, or_true, Int.reduceEq, b_0, b_1, e]
    repeat (refine And.intro (by show _ ≤ 16777216; (try simp only [List.length_append, List.length_cons, List.length_nil]); omega) ?_)
    exact hq _ _ _ _ g (.off ha)
  · have e : ∀ c x, ((((s21 ++ (((a ++ [32]) ++ b) ++ [32])) ++ c) ++ s2) ++ x) = TL.joinL [32] [s7, a, b, c, x] := fun c x => by simp [TL.joinL, s21, s7, s2]
    have l1 : s21.length = 4 := rfl
    have l2 : s2.length = 1 := rfl
    simp only [wpCs, wpC, wpT, wpE, wpEs, wpI, asg1, List.getElem?_cons_zero, List.getElem?_cons_succ, List.set_cons_zero, List.set_cons_succ, od_addI, od_addS, od_sub, od_mulI, od_div, od_mod, od_neg, od_not, od_eqI, od_neI, od_ltI, od_le, od_gt, od_ge, od_isN, od_notN, od_inS, od_ninS, od_tup, od_lst, od_dnT, od_lenS, od_lenT, od_lenQ, od_ixT, od_ixQ, od_min, od_int1, od_intB, od_listT, od_tupT, od_cutHQ, List.length_cons, List.length_nil, if_true, true_and, and_true, Bool.not_true, Bool.not_false, Bool.false_eq_true, if_false, ite_true, ite_false, decide_true, decide_false, reduceIte, Option.some.injEq, exists_eq_left', Int.reduceLT, Int.reduceLE, Int.reduceToNat, and_self, true_or, or_true, Int.reduceEq, b_0, b_1]
    refine sp_name fun c S2 g2 hc => ?_
    have fc := name_facts hc
    simp only [wpCs, wpC, wpT, wpE, wpEs, wpI, asg1, List.getElem?_cons_zero, List.getElem?_cons_succ, List.set_cons_zero, List.set_cons_succ, od_addI, od_addS, od_sub, od_mulI, od_div, od_mod, od_neg, od_not, od_eqI, od_neI, od_ltI, od_le, od_gt, od_ge, od_isN, od_notN, od_inS, od_ninS, od_tup, od_lst, od_dnT, od_lenS, od_lenT, od_lenQ, od_ixT, od_ixQ, od_min, od_int1, od_intB, od_listT, od_tupT, od_cutHQ, List.length_cons, List.length_nil, if_true, true_and, and_true, Bool.not_true, Bool.not_false, Bool.false_eq_true, if_false, ite_true, ite_false, decide_true, decide_false, reduceIte, Option.some.injEq, exists_eq_left', Int.reduceLT, Int.reduceLE, Int.reduceToNat, and_self, true_or, or_true, p60]
    refine ⟨by decide, by decide, ?_⟩
    rw [od_ixL (at_push _ _)]
    have hz : ∃ z, L2.atI [D.int (head / 7 % 12), D.int (head / 28 % T60)] (head / 7 % 4 / 3) = some (.int z) ∧ 0 ≤ z ∧ z < T60 := by
      have w0 : 0 ≤ head / 7 % 4 := Int.emod_nonneg _ (by decide)
      have w1 : head / 7 % 4 < 4 := Int.emod_lt_of_pos _ (by decide)
      have : head / 7 % 4 / 3 = 0 ∨ head / 7 % 4 / 3 = 1 := by omega
      rcases this with w | w
      · rw [w]
        have u0 : 0 ≤ head / 7 % 12 := Int.emod_nonneg _ (by decide)
        have u1 : head / 7 % 12 < 12 := Int.emod_lt_of_pos _ (by decide)
        exact ⟨_, rfl, u0, by show _ < (1000000000000000000000000000000000000000000000000000000000000 : Int); omega⟩
      · rw [w]
        exact ⟨_, rfl, Int.emod_nonneg _ (by decide), Int.emod_lt_of_pos _ (by decide)⟩
    obtain ⟨z, ez, z0, z1⟩ := hz
    have fz := num_len z0 z1
    have hm := fun S Q => od_strI (S := S) (Q := Q) z0 z1
    refine ⟨_, ez, ?_⟩
    simp only [od_addS, hm, e]
    repeat (refine And.intro (by show _ ≤ 16777216; (try simp only [List.length_append, List.length_cons, List.length_nil]); omega) ?_)
    exact hq _ _ _ _ ((g.trans g2).trans (Gr.push _ _)) (.put ha hb hc z0 z1)
  · simp only [wpCs, wpC, wpT, wpE, wpEs, wpI, asg1, List.getElem?_cons_zero, List.getElem?_cons_succ, List.set_cons_zero, List.set_cons_succ, od_addI, od_addS, od_sub, od_mulI, od_div, od_mod, od_neg, od_not, od_eqI, od_neI, od_ltI, od_le, od_gt, od_ge, od_isN, od_notN, od_inS, od_ninS, od_tup, od_lst, od_dnT, od_lenS, od_lenT, od_lenQ, od_ixT, od_ixQ, od_min, od_int1, od_intB, od_listT, od_tupT, od_cutHQ, List.length_cons, List.length_nil, if_true, true_and, and_true, Bool.not_true, Bool.not_false, Bool.false_eq_true, if_false, ite_true, ite_false, decide_true, decide_false, reduceIte, Option.some.injEq, exists_eq_left', Int.reduceLT, Int.reduceLE, Int.reduceToNat, and_self, true_or, or_true, Int.reduceEq, b_0, b_1]
    repeat (refine And.intro (by show _ ≤ 16777216; (try simp only [List.length_append, List.length_cons, List.length_nil]); omega) ?_)
    exact hq _ _ _ _ g .bell
/-! ### back again: what a text was made of -/
/-- the deed that is made of things -/
def deedOf : Int → List D → Nat × List (Nat × D)
  | 0, [s, m] => (13, [(1, s), (2, m)])
  | 1, [s, m] => (14, [(1, s), (2, m)])
  | 2, [s, m] => (15, [(1, s), (3, m)])
  | 3, [d] => (16, [(4, d)])
  | 4, [a] => (17, [(5, a)])
  | 5, [s, a, m] => (18, [(1, s), (5, a), (6, m)])
  | _, _ => (19, [])
/-! ### == of lists of truth values -/
theorem eqD_bls {r q : Nat} {bs : List Bool} (h1 : S[r]? = some (.lst (bs.map .bl))) (h2 : S[q]? = some (.lst (bs.map .bl))) : eqD S (.ref r) (.ref q) = some true := by
  have e : ∀ bs : List Bool, (bs.map D.bl).mapM (pd S 11) = some (bs.map .bool) := by
    intro bs
    induction bs with
    | nil => rfl
    | cons b bs ih => rw [List.map_cons, List.mapM_cons, ih]; rfl
  have p1 : ∀ {r : Nat}, S[r]? = some (.lst (bs.map .bl)) → pd S 12 (.ref r) = some (.list (bs.map .bool)) := fun {r} h => by
    rw [pd]
    simp only [lstAt, h, seqOf, Option.bind_some, e]
    rfl
  have pl : ∀ bs : List Bool, PyData.plainAll (bs.map .bool) = true := by
    intro bs
    induction bs with
    | nil => rfl
    | cons b bs ih => simp only [List.map_cons, PyData.plainAll, PyData.plain, ih, Bool.and_self]
  unfold eqD
  rw [p1 h1, p1 h2]
  simp only [SeqAt.eqv_refl_plain _ (show (PyData.list (bs.map .bool)).plain = true from pl bs)]
/-! ### a deed's row -/
theorem od_cutHT {ds : List D} {k : Nat} (h : k < ds.length) : opD TT .cutH [.tup ds, .int (k : Nat)] S Q = Q (.tup (ds.take k)) S := by
  have e : opF TT .cutH [.tup ds, .int (k : Nat)] S = some (.tup (ds.take k), S) := by
    have c : clip (k : Nat) ds.length = k := by unfold clip; omega
    rw [op_cutH]
    simp only [oCutH, cutF, c, List.drop_zero, Nat.sub_zero, List.length_take]
    rw [if_pos (by omega), if_pos (by omega)]
  rw [od_some e]
theorem join2 {a b : List Nat} (hl : a.length + b.length + 2 ≤ LIM) : opD TT .join [.str s2, .tup [.str a, .str b]] S Q = Q (.str (TL.joinL [32] [a, b])) S := by
  have e := od_joinT (T := TT) (S := S) (Q := Q) (a := s2) (ps := [a, b])
  have e1 : (.tup ([a, b].map D.str) : D) = .tup [.str a, .str b] := rfl
  rw [e1] at e
  rw [e]
  have : (List.map (fun x => x.length) [a, b]).sum + [a, b].length * s2.length ≤ LIM := by simp [s2]; omega
  simp only [this, true_and]
  rfl
theorem join3 {a b c : List Nat} (hl : a.length + b.length + c.length + 3 ≤ LIM) : opD TT .join [.str s2, .tup [.str a, .str b, .str c]] S Q = Q (.str (TL.joinL [32] [a, b, c])) S := by
  have e := od_joinT (T := TT) (S := S) (Q := Q) (a := s2) (ps := [a, b, c])
  have e1 : (.tup ([a, b, c].map D.str) : D) = .tup [.str a, .str b, .str c] := rfl
  rw [e1] at e
  rw [e]
  have : (List.map (fun x => x.length) [a, b, c]).sum + [a, b, c].length * s2.length ≤ LIM := by simp [s2]; omega
  simp only [this, true_and]
  rfl
theorem od_at {f r c : Nat} {fs : List (Nat × D)} (h : S[r]? = some (.ins c fs)) (hf : lookF fs f = some d) : opD TT (.attr f) [.ref r] S Q = Q d S := by
  rw [od_attr h, hf]
  simp
theorem rowG {C : Calls} {a b s : List Nat} {m : Int} {f1 f2 r c : Nat} {fs : List (Nat × D)} (hr : S[r]? = some (.ins c fs)) (h1 : lookF fs f1 = some (.tup [.str a, .str b])) (h2 : lookF fs f2 = some (.int m)) (ha : nameA (.str a) = true) (hb : nameA (.str b) = true) (m1 : 0 ≤ m) (m2 : m < T60) (hs : s.length ≤ 10)
    (hq : Q (.str (((s ++ TL.joinL [32] [a, b]) ++ [32]) ++ TL.numL m.toNat)) S) :
    wpE TT C none (.op .add (.cons (.op .add (.cons (.op .add (.cons (.cst (.str s)) (.cons (.bm .join (.cst (.str s2)) (.cons (.op (.attr f1) (.cons (.var 0) .nil)) .nil)) .nil))) (.cons (.cst (.str s2)) .nil))) (.cons (.op .str1 (.cons (.op (.attr f2) (.cons (.var 0) .nil)) .nil)) .nil))) [some (.ref r)] S Q EX := by
  have fa := name_facts ha
  have fb := name_facts hb
  have fm := num_len m1 m2
  have hm := fun S Q => od_strI (S := S) (Q := Q) m1 m2
  have tj : ∀ S a, tyOk .join S (.str a) = true := fun _ _ => rfl
  have hj := fun Q => join2 (S := S) (Q := Q) (a := a) (b := b) (by show _ ≤ 16777216; omega)
  have q1 := fun Q => od_at (Q := Q) hr h1
  have q2 := fun Q => od_at (Q := Q) hr h2
  have jl : (TL.joinL [32] [a, b]).length ≤ 17 := by simp [TL.joinL]; omega
  have l1 : s2.length = 1 := rfl
  simp only [wpCs, wpC, wpT, wpE, wpEs, wpI, asg1, List.getElem?_cons_zero, List.getElem?_cons_succ, List.set_cons_zero, List.set_cons_succ, od_addI, od_addS, od_sub, od_mulI, od_div, od_mod, od_neg, od_not, od_eqI, od_neI, od_ltI, od_le, od_gt, od_ge, od_isN, od_notN, od_inS, od_ninS, od_tup, od_lst, od_dnT, od_lenS, od_lenT, od_lenQ, od_ixT, od_ixQ, od_min, od_int1, od_intB, od_listT, od_tupT, od_cutHQ, List.length_cons, List.length_nil, if_true, true_and, and_true, Bool.not_true, Bool.not_false, Bool.false_eq_true, if_false, ite_true, ite_false, decide_true, decide_false, reduceIte, Option.some.injEq, exists_eq_left', Int.reduceLT, Int.reduceLE, Int.reduceToNat, and_self, true_or, or_true, q1, q2, tj, hj, hm, od_addS]
  repeat (refine And.intro (by show _ ≤ 16777216; (try simp only [List.length_append, List.length_cons, List.length_nil]); omega) ?_)
  exact hq
theorem sp_row {kind : Int} {things : List D} {text : List Nat} {r : Nat} (h : Made kind things text) (hr : S[r]? = some (.ins (deedOf kind things).1 (deedOf kind things).2)) (hq : ∀ S', Gr S S' → Q (.str text) S') :
    ∃ f, TT.met (deedOf kind things).1 0 = some f ∧ lookF (deedOf kind things).2 0 = none ∧ wpCall TT FT (n + 1) f [.ref r] S Q EX := by
  have hq0 := hq S (Gr.refl S)
  cases h with
  | @lay a b m ha hb m1 m2 =>
    refine ⟨_, rfl, rfl, ?_⟩
    rw [call_Lay_row]
    refine ⟨rfl, ?_⟩
    unfold b_Lay_row
    rw [wpCs, wpC]
    refine rowG hr rfl rfl ha hb (by omega) m2 (by decide) ?_
    have e : ((s25 ++ TL.joinL [32] [a, b]) ++ [32]) ++ TL.numL m.toNat = TL.joinL [32] [s6, a, b, TL.numL m.toNat] := by simp [TL.joinL, s25, s6]
    rw [e]; exact hq0
  | @take a b m ha hb m1 m2 =>
    refine ⟨_, rfl, rfl, ?_⟩
    rw [call_Take_row]
    refine ⟨rfl, ?_⟩
    unfold b_Take_row
    rw [wpCs, wpC]
    refine rowG hr rfl rfl ha hb (by omega) m2 (by decide) ?_
    have e : ((s24 ++ TL.joinL [32] [a, b]) ++ [32]) ++ TL.numL m.toNat = TL.joinL [32] [s5, a, b, TL.numL m.toNat] := by simp [TL.joinL, s24, s5]
    rw [e]; exact hq0
  | @line a b m ha hb m1 m2 =>
    refine ⟨_, rfl, rfl, ?_⟩
    rw [call_Line_row]
    refine ⟨rfl, ?_⟩
    unfold b_Line_row
    rw [wpCs, wpC]
    refine rowG hr rfl rfl ha hb m1 m2 (by decide) ?_
    have e : ((s23 ++ TL.joinL [32] [a, b]) ++ [32]) ++ TL.numL m.toNat = TL.joinL [32] [s4, a, b, TL.numL m.toNat] := by simp [TL.joinL, s23, s4]
    rw [e]; exact hq0
  | @deal a ds ha hds d1 d2 =>
    refine ⟨_, rfl, rfl, ?_⟩
    rw [call_Offer_row]
    refine ⟨rfl, ?_⟩
    unfold b_Offer_row
    have q1 := fun Q => od_at (Q := Q) (f := 4) (d := .tup [.str a, .tup ds]) hr rfl
    simp only [wpCs, wpC, wpT, wpE, wpEs, wpI, asg1, List.getElem?_cons_zero, List.getElem?_cons_succ, List.set_cons_zero, List.set_cons_succ, od_addI, od_addS, od_sub, od_mulI, od_div, od_mod, od_neg, od_not, od_eqI, od_neI, od_ltI, od_le, od_gt, od_ge, od_isN, od_notN, od_inS, od_ninS, od_tup, od_lst, od_dnT, od_lenS, od_lenT, od_lenQ, od_ixT, od_ixQ, od_min, od_int1, od_intB, od_listT, od_tupT, od_cutHQ, List.length_cons, List.length_nil, if_true, true_and, and_true, Bool.not_true, Bool.not_false, Bool.false_eq_true, if_false, ite_true, ite_false, decide_true, decide_false, reduceIte, Option.some.injEq, exists_eq_left', Int.reduceLT, Int.reduceLE, Int.reduceToNat, and_self, true_or, or_true, q1, at_1, wk_tup]
    have fa := name_facts ha
    refine compN_fun (fun d => .str (legT d)) (Nat.le_refl S.length) (fun _ _ => trivial) _ _ _ (fun x hx S3 kk g3 hk => ?_) (Gr.push _ _) (at_push _ _) (by simp; omega) fun S3 g3 h3 => ?_
    · obtain ⟨g, t, w, m, rfl, hg, ht, hgt, hw, m1, m2⟩ := (hds x hx).ex
      have := name_facts hg
      have := name_facts ht
      have := name_facts hw
      have fm := num_len (by omega) m2
      have hm := fun S Q => od_strI (S := S) (Q := Q) (show 0 ≤ m by omega) m2
      have tj : ∀ S a, tyOk .join S (.str a) = true := fun _ _ => rfl
      have hj := fun Q => join3 (S := S3) (Q := Q) (a := g) (b := t) (c := w) (by show _ ≤ 16777216; omega)
      have hc : ∀ Q, opD TT .cutH [.tup [.str g, .str t, .str w, .int m], .int 3] S3 Q = Q (.tup [.str g, .str t, .str w]) S3 := fun Q => od_cutHT (k := 3) (by simp)
      have jl : (TL.joinL [32] [g, t, w]).length ≤ 26 := by simp [TL.joinL]; omega
      have l1 : s2.length = 1 := rfl
      have e : (TL.joinL [32] [g, t, w] ++ s2) ++ TL.numL m.toNat = legT (.tup [.str g, .str t, .str w, .int m]) := by simp [legT, TL.joinL, s2]
      simp only [wpCs, wpC, wpT, wpE, wpEs, wpI, asg1, List.getElem?_cons_zero, List.getElem?_cons_succ, List.set_cons_zero, List.set_cons_succ, od_addI, od_addS, od_sub, od_mulI, od_div, od_mod, od_neg, od_not, od_eqI, od_neI, od_ltI, od_le, od_gt, od_ge, od_isN, od_notN, od_inS, od_ninS, od_tup, od_lst, od_dnT, od_lenS, od_lenT, od_lenQ, od_ixT, od_ixQ, od_min, od_int1, od_intB, od_listT, od_tupT, od_cutHQ, List.length_cons, List.length_nil, if_true, true_and, and_true, Bool.not_true, Bool.not_false, Bool.false_eq_true, if_false, ite_true, ite_false, decide_true, decide_false, reduceIte, Option.some.injEq, exists_eq_left', Int.reduceLT, Int.reduceLE, Int.reduceToNat, and_self, true_or, or_true, tj, hc, hj, hm, od_addS, a3, e]
      repeat (refine And.intro (by show _ ≤ 16777216; (try simp only [List.length_append, List.length_cons, List.length_nil]); omega) ?_)
      exact hk
    · have e3 : [] ++ List.map (fun d => D.str (legT d)) ds = (ds.map legT).map D.str := by simp
      rw [e3] at h3
      have q3 := fun Q => od_at (Q := Q) (f := 4) (d := .tup [.str a, .tup ds]) (g3 _ _ hr) rfl
      have tj : ∀ S a, tyOk .join S (.str a) = true := fun _ _ => rfl
      have l1 : s10.length = 5 := rfl
      have l2 : s2.length = 1 := rfl
      have l3 : s3.length = 2 := rfl
      have j1 := legs_len hds
      have j2 := joinL_len s3 (ds.map legT)
      have hj := fun Q => od_joinL (T := TT) (Q := Q) (a := s3) h3
      simp only [List.length_map, l3] at j2 hj
      simp only [wpCs, wpC, wpT, wpE, wpEs, wpI, asg1, List.getElem?_cons_zero, List.getElem?_cons_succ, List.set_cons_zero, List.set_cons_succ, od_addI, od_addS, od_sub, od_mulI, od_div, od_mod, od_neg, od_not, od_eqI, od_neI, od_ltI, od_le, od_gt, od_ge, od_isN, od_notN, od_inS, od_ninS, od_tup, od_lst, od_dnT, od_lenS, od_lenT, od_lenQ, od_ixT, od_ixQ, od_min, od_int1, od_intB, od_listT, od_tupT, od_cutHQ, List.length_cons, List.length_nil, if_true, true_and, and_true, Bool.not_true, Bool.not_false, Bool.false_eq_true, if_false, ite_true, ite_false, decide_true, decide_false, reduceIte, Option.some.injEq, exists_eq_left', Int.reduceLT, Int.reduceLE, Int.reduceToNat, and_self, true_or, or_true, q3, at_0, tj, hj]
      repeat (refine And.intro (by show _ ≤ 16777216; (try simp only [List.length_append, List.length_cons, List.length_nil]); omega) ?_)
      have e5 : ((s10 ++ a) ++ s2) ++ TL.joinL s3 (ds.map legT) = s10 ++ (a ++ ([32] ++ TL.joinL [44, 32] (ds.map legT))) := by
        simp [show s2 = [32] from rfl, show s3 = [44, 32] from rfl]
      rw [e5]
      exact hq _ g3
  | @off a ha =>
    refine ⟨_, rfl, rfl, ?_⟩
    rw [call_Off_row]
    refine ⟨rfl, ?_⟩
    unfold b_Off_row
    have q1 := fun Q => od_at (Q := Q) (f := 5) (d := .str a) hr rfl
    have fa := name_facts ha
    have l1 : s22.length = 4 := rfl
    have e : s22 ++ a = TL.joinL [32] [s8, a] := by simp [TL.joinL, s22, s8]
    simp only [wpCs, wpC, wpT, wpE, wpEs, wpI, asg1, List.getElem?_cons_zero, List.getElem?_cons_succ, List.set_cons_zero, List.set_cons_succ, od_addI, od_addS, od_sub, od_mulI, od_div, od_mod, od_neg, od_not, od_eqI, od_neI, od_ltI, od_le, od_gt, od_ge, od_isN, od_notN, od_inS, od_ninS, od_tup, od_lst, od_dnT, od_lenS, od_lenT, od_lenQ, od_ixT, od_ixQ, od_min, od_int1, od_intB, od_listT, od_tupT, od_cutHQ, List.length_cons, List.length_nil, if_true, true_and, and_true, Bool.not_true, Bool.not_false, Bool.false_eq_true, if_false, ite_true, ite_false, decide_true, decide_false, reduceIte, Option.some.injEq, exists_eq_left', Int.reduceLT, Int.reduceLE, Int.reduceToNat, and_self, true_or, or_true, q1, e]
    repeat (refine And.intro (by show _ ≤ 16777216; (try simp only [List.length_append, List.length_cons, List.length_nil]); omega) ?_)
    exact hq0
  | @put a b c m ha hb hc m1 m2 =>
    refine ⟨_, rfl, rfl, ?_⟩
    rw [call_Put_row]
    refine ⟨rfl, ?_⟩
    unfold b_Put_row
    have fa := name_facts ha
    have fb := name_facts hb
    have fc := name_facts hc
    have fm := num_len m1 m2
    have hm := fun S Q => od_strI (S := S) (Q := Q) m1 m2
    have tj : ∀ S a, tyOk .join S (.str a) = true := fun _ _ => rfl
    have hj := fun Q => join2 (S := S) (Q := Q) (a := a) (b := b) (by show _ ≤ 16777216; omega)
    have q1 := fun Q => od_at (Q := Q) (f := 1) (d := .tup [.str a, .str b]) hr rfl
    have q2 := fun Q => od_at (Q := Q) (f := 5) (d := .str c) hr rfl
    have q3 := fun Q => od_at (Q := Q) (f := 6) (d := .int m) hr rfl
    have jl : (TL.joinL [32] [a, b]).length ≤ 17 := by simp [TL.joinL]; omega
    have l1 : s2.length = 1 := rfl
    have l2 : s21.length = 4 := rfl
    have e : ((((s21 ++ TL.joinL [32] [a, b]) ++ s2) ++ c) ++ s2) ++ TL.numL m.toNat = TL.joinL [32] [s7, a, b, c, TL.numL m.toNat] := by simp [TL.joinL, s21, s7, s2]
    simp only [wpCs, wpC, wpT, wpE, wpEs, wpI, asg1, List.getElem?_cons_zero, List.getElem?_cons_succ, List.set_cons_zero, List.set_cons_succ, od_addI, od_addS, od_sub, od_mulI, od_div, od_mod, od_neg, od_not, od_eqI, od_neI, od_ltI, od_le, od_gt, od_ge, od_isN, od_notN, od_inS, od_ninS, od_tup, od_lst, od_dnT, od_lenS, od_lenT, od_lenQ, od_ixT, od_ixQ, od_min, od_int1, od_intB, od_listT, od_tupT, od_cutHQ, List.length_cons, List.length_nil, if_true, true_and, and_true, Bool.not_true, Bool.not_false, Bool.false_eq_true, if_false, ite_true, ite_false, decide_true, decide_false, reduceIte, Option.some.injEq, exists_eq_left', Int.reduceLT, Int.reduceLE, Int.reduceToNat, and_self, true_or, or_true, q1, q2, q3, tj, hj, hm, od_addS, e]
    repeat (refine And.intro (by show _ ≤ 16777216; (try simp only [List.length_append, List.length_cons, List.length_nil]); omega) ?_)
    exact hq0
  | bell =>
    refine ⟨_, rfl, rfl, ?_⟩
    rw [call_Bell_row]
    refine ⟨rfl, ?_⟩
    unfold b_Bell_row
    simp only [wpCs, wpC, wpT, wpE, wpEs, wpI, asg1, List.getElem?_cons_zero, List.getElem?_cons_succ, List.set_cons_zero, List.set_cons_succ, od_addI, od_addS, od_sub, od_mulI, od_div, od_mod, od_neg, od_not, od_eqI, od_neI, od_ltI, od_le, od_gt, od_ge, od_isN, od_notN, od_inS, od_ninS, od_tup, od_lst, od_dnT, od_lenS, od_lenT, od_lenQ, od_ixT, od_ixQ, od_min, od_int1, od_intB, od_listT, od_tupT, od_cutHQ, List.length_cons, List.length_nil, if_true, true_and, and_true, Bool.not_true, Bool.not_false, Bool.false_eq_true, if_false, ite_true, ite_false, decide_true, decide_false, reduceIte, Option.some.injEq, exists_eq_left', Int.reduceLT, Int.reduceLE, Int.reduceToNat, and_self, true_or, or_true]
    exact hq0
/-! ### texts cut and joined -/
theorem joinL_cons {b p q : List Nat} {r : List (List Nat)} : TL.joinL b (p :: q :: r) = p ++ (b ++ TL.joinL b (q :: r)) := by simp [TL.joinL]
theorem joinL_ne {b p : List Nat} {r : List (List Nat)} (h : r ≠ []) : TL.joinL b (p :: r) = p ++ (b ++ TL.joinL b r) := by
  cases r with
  | nil => exact absurd rfl h
  | cons q r => exact joinL_cons
theorem pre_cut {b s : List Nat} (h : TL.pre b s = true) : s = b ++ s.drop b.length := by
  unfold TL.pre at h
  have e : s.take b.length = b := by simpa using h
  have := List.take_append_drop b.length s
  rw [e] at this
  exact this.symm
theorem join_spl {b : List Nat} (hb : b ≠ []) : ∀ (n : Nat) (s acc : List Nat), s.length ≤ n → TL.joinL b (TL.spl b 0 acc s) = acc ++ s
  | _, [], acc, _ => by rw [TL.spl_nil]; simp [TL.joinL]
  | 0, c :: r, acc, h => by simp at h
  | n + 1, c :: r, acc, h => by
    by_cases e : TL.pre b (c :: r) = true
    · rw [TL.spl_hit e, TL.spl_pass, joinL_ne (spl_ne _ _ _ _), join_spl hb n _ _ (by simp at h ⊢; omega)]
      have hl := List.length_pos_iff.mpr hb
      have ed : r.drop (b.length - 1) = (c :: r).drop b.length := by
        obtain ⟨k, hk⟩ : ∃ k, b.length = k + 1 := ⟨b.length - 1, by omega⟩
        rw [hk]; rfl
      rw [ed, List.nil_append, ← pre_cut e]
    · rw [Bool.not_eq_true] at e
      rw [TL.spl_miss e, join_spl hb n _ _ (by simpa using h)]
      simp
theorem join_wds (t : List Nat) : TL.joinL [32] (wds t) = t := join_spl (by simp) t.length t [] (Nat.le_refl _)
theorem join_lgs (t : List Nat) : TL.joinL [44, 32] (lgs t) = t := join_spl (by simp) t.length t [] (Nat.le_refl _)
theorem pre1 {c : Nat} {r : List Nat} : TL.pre [32] (c :: r) = decide (c = 32) := by
  unfold TL.pre
  by_cases h : c = 32
  · subst h; rfl
  · have : ¬ (([c] : List Nat) = [32]) := by simpa using h
    simp [h]
theorem par_spl : ∀ (s acc : List Nat), match TL.par [32] acc s with
    | some (x, y) => TL.spl [32] 0 acc s = x :: wds y ∧ acc ++ s = x ++ ([32] ++ y)
    | none => TL.spl [32] 0 acc s = [acc ++ s]
  | [], acc => by
    show TL.spl [32] 0 acc [] = _
    rw [TL.spl_nil]; simp
  | c :: r, acc => by
    by_cases e : TL.pre [32] (c :: r) = true
    · rw [TL.par_hit e, TL.spl_hit e]
      have hc : c = 32 := by rw [pre1] at e; simpa using e
      subst hc
      refine ⟨?_, by simp⟩
      show acc :: TL.spl [32] 0 [] r = _
      rfl
    · rw [Bool.not_eq_true] at e
      rw [TL.par_miss e, TL.spl_miss e]
      have := par_spl r (acc ++ [c])
      revert this
      cases TL.par [32] (acc ++ [c]) r with
      | none => intro h; rw [h]; simp
      | some p =>
        obtain ⟨x, y⟩ := p
        intro h
        exact ⟨h.1, by rw [← h.2]; simp⟩
theorem par_some {s x y : List Nat} (h : TL.par [32] [] s = some (x, y)) : wds s = x :: wds y ∧ s = x ++ ([32] ++ y) := by
  have := par_spl s []
  rw [h] at this
  exact ⟨this.1, by simpa using this.2⟩
theorem par_non {s : List Nat} (h : TL.par [32] [] s = none) : wds s = [s] := by
  have := par_spl s []
  rw [h] at this
  exact this
/-! ### a number's word, back -/
theorem num_back : ∀ (w : List Nat), w ≠ [] → (∀ c ∈ w, 48 ≤ c ∧ c ≤ 57) → (w.take 1 = [48] → w.length ≤ 1) → TL.numL (NumText.digitsVal w) = w := by
  intro w
  induction hn : w.length generalizing w with
  | zero => intro h; exact absurd (List.length_eq_zero_iff.mp hn) h
  | succ k ih =>
    intro hne hd ht
    obtain ⟨l, c, rfl⟩ : ∃ l c, w = l ++ [c] := ⟨_, _, (List.dropLast_concat_getLast hne).symm⟩
    have hc := hd c (by simp)
    rw [dig_snoc]
    by_cases hl : l = []
    · subst hl
      have e : NumText.digitsVal [] * 10 + (c - 48) = c - 48 := by
        show 0 * 10 + (c - 48) = _
        omega
      rw [e, TL.numL_lt (by omega)]
      have : 48 + (c - 48) = c := by omega
      rw [this]; rfl
    · have l1 : 1 ≤ l.length := List.length_pos_iff.mpr hl
      have ht1 : ¬ l.take 1 = [48] := fun z => by
        have := ht (by rw [List.take_append_of_le_length l1]; exact z)
        rw [List.length_append] at hn
        simp only [List.length_cons, List.length_nil] at hn
        omega
      have ihl := ih l (by simpa using hn) hl (fun z hz => hd z (by simp [hz])) fun z => absurd z ht1
      have hp : 0 < NumText.digitsVal l := by
        rcases Nat.eq_zero_or_pos (NumText.digitsVal l) with z | z
        · rw [z, TL.numL_lt (by decide)] at ihl
          rw [← ihl] at ht1
          exact absurd rfl ht1
        · exact z
      rw [TL.numL_step (by omega)]
      have e1 : (NumText.digitsVal l * 10 + (c - 48)) / 10 = NumText.digitsVal l := by omega
      have e2 : 48 + (NumText.digitsVal l * 10 + (c - 48)) % 10 = c := by omega
      rw [e1, e2, ihl]
theorem numW_back {w : List Nat} (h : numW w = true) : TL.numL (valW w).toNat = w ∧ valW w < T60 := by
  have h1 := numW_facts h
  refine ⟨?_, val_lt h1.2.1 h1.2.2⟩
  unfold valW
  rw [Int.toNat_natCast]
  refine num_back w h1.1 (fun c hc => figs.mp (h1.2.2 c hc)) fun z => ?_
  simp only [numW, Bool.and_eq_true, Bool.not_eq_true', Bool.and_eq_false_iff, decide_eq_false_iff_not] at h
  rcases h.2 with k | k
  · exact absurd z k
  · omega
/-! ### what a row that is read was made of -/
theorem leg_back {p : List Nat} {d : D} (h : legP p = some d) : legT d = p := by
  have hj := join_wds p
  unfold legP at h
  generalize wds p = ws at h hj
  match ws, h with
  | [g, t, w, m], h =>
    simp only [legL] at h
    split at h
    · rename_i e
      cases h
      simp only [legW, Bool.and_eq_true] at e
      have nb := numW_back e.1.2
      rw [← hj]
      simp only [legT, nb.1]
    · cases h
  | [], h => cases h
  | [_], h => cases h
  | [_, _], h => cases h
  | [_, _, _], h => cases h
  | _ :: _ :: _ :: _ :: _ :: _, h => cases h
theorem words_made {t : List Nat} {ws : List (List Nat)} {p : Nat × List (Nat × D)} (hj : TL.joinL [32] ws = t) (h : wordsP ws = some p) : ∃ kind things, Made kind things t ∧ p = deedOf kind things := by
  subst hj
  match ws, h with
  | [], h => cases h
  | [w0], h =>
    simp only [wordsP] at h
    split at h
    · rename_i e
      cases h
      subst e
      exact ⟨6, [], .bell, rfl⟩
    · cases h
  | [w0, w1], h =>
    simp only [wordsP] at h
    split at h
    · rename_i e
      split at h
      · rename_i e1
        cases h
        subst e
        exact ⟨4, _, .off e1, rfl⟩
      · cases h
    · cases h
  | [w0, w1, w2], h => cases h
  | [w0, w1, w2, w3], h =>
    simp only [wordsP, shelfL] at h
    split at h
    · rename_i en
      simp only [Bool.and_eq_true] at en
      split at h
      · rename_i e
        subst e
        split at h
        · rename_i c
          cases h
          have nb := numW_back c.1
          have m0 : 0 ≤ valW w3 := val_nn
          have := Made.lay en.1 en.2 (m := valW w3) (by have := c.2; omega) nb.2
          rw [nb.1] at this
          exact ⟨0, _, this, rfl⟩
        · cases h
      · split at h
        · rename_i e
          subst e
          split at h
          · rename_i c
            cases h
            have nb := numW_back c.1
            have m0 : 0 ≤ valW w3 := val_nn
            have := Made.take en.1 en.2 (m := valW w3) (by have := c.2; omega) nb.2
            rw [nb.1] at this
            exact ⟨1, _, this, rfl⟩
          · cases h
        · split at h
          · rename_i e
            subst e
            split at h
            · rename_i c
              cases h
              have nb := numW_back c
              have := Made.line en.1 en.2 (m := valW w3) val_nn nb.2
              rw [nb.1] at this
              exact ⟨2, _, this, rfl⟩
            · cases h
          · cases h
    · cases h
  | [w0, w1, w2, w3, w4], h =>
    simp only [wordsP] at h
    split at h
    · rename_i e
      subst e
      split at h
      · rename_i c
        cases h
        simp only [Bool.and_eq_true] at c
        have nb := numW_back c.2
        have := Made.put c.1.1.1 c.1.1.2 c.1.2 (m := valW w4) val_nn nb.2
        rw [nb.1] at this
        exact ⟨5, _, this, rfl⟩
      · cases h
    · cases h
  | _ :: _ :: _ :: _ :: _ :: _ :: _, h => cases h
theorem read_made {t : List Nat} {p : Nat × List (Nat × D)} (h : readP t = some p) : ∃ kind things, Made kind things t ∧ p = deedOf kind things := by
  unfold readP at h
  split at h
  · rename_i e5
    unfold offerP at h
    split at h
    · rename_i nm rest hpar
      have hp := par_some hpar
      unfold legsR at h
      split at h
      · rename_i c
        simp only [Bool.and_eq_true, decide_eq_true_eq, List.all_eq_true] at c
        cases h
        have ds := legs_ok (ps := lgs rest) c.1.2
        have hl : 1 ≤ (((lgs rest).map D.str).map legOf).length := by
          have := List.length_pos_iff.mpr (spl_ne [44, 32] rest 0 [])
          simp only [List.length_map]
          exact this
        have := Made.deal c.1.1 ds hl (by simpa using c.2)
        have em : (((lgs rest).map D.str).map legOf).map legT = lgs rest := by
          rw [List.map_map, List.map_map]
          refine (List.map_congr_left (g := id) fun q hq => ?_).trans (List.map_id _)
          obtain ⟨d, hd⟩ := Option.isSome_iff_exists.mp (c.1.2 q hq)
          show legT (legOf (.str q)) = q
          simp only [legOf, hd, Option.getD_some]
          exact leg_back hd
        rw [em, join_lgs] at this
        have et : s10 ++ (nm ++ ([32] ++ rest)) = t := by
          rw [← hp.2, ← e5, List.take_append_drop]
        rw [et] at this
        exact ⟨3, _, this, rfl⟩
      · cases h
    · cases h
  · exact words_made (join_wds t) h
/-! ### the law's own reading -/
theorem od_neS : opD TT .ne [.str a, .str b] S Q = Q (.bl (!decide (a = b))) S := by rw [od_ne, eqD_str]; simp
theorem sp_lword {s : List Nat} (hl : s.length ≤ LIM) (hq : Q (.bl (nameA (.str s))) S) : wpCall TT FT (n + 1) 17 [.str s] S Q EX := by
  rw [call__law_word]
  refine ⟨rfl, ?_⟩
  unfold b__law_word
  simp only [wpCs, wpC, wpT, wpE, wpEs, wpI, asg1, List.getElem?_cons_zero, List.getElem?_cons_succ, List.set_cons_zero, List.set_cons_succ, od_addI, od_addS, od_sub, od_mulI, od_div, od_mod, od_neg, od_not, od_eqI, od_neI, od_ltI, od_le, od_gt, od_ge, od_isN, od_notN, od_inS, od_ninS, od_tup, od_lst, od_dnT, od_lenS, od_lenT, od_lenQ, od_ixT, od_ixQ, od_min, od_int1, od_intB, od_listT, od_tupT, od_cutHQ, List.length_cons, List.length_nil, if_true, true_and, and_true, Bool.not_true, Bool.not_false, Bool.false_eq_true, if_false, ite_true, ite_false, decide_true, decide_false, reduceIte, Option.some.injEq, exists_eq_left', Int.reduceLT, Int.reduceLE, Int.reduceToNat, and_self, true_or, or_true, wk_str]
  refine signs (al := s11) (T := fun S => Q (.bl false) S) (fun c K hrt hk => ?_) s none ?_
  · simp only [wpCs, wpC, wpT, wpE, wpEs, wpI, asg1, List.getElem?_cons_zero, List.getElem?_cons_succ, List.set_cons_zero, List.set_cons_succ, od_addI, od_addS, od_sub, od_mulI, od_div, od_mod, od_neg, od_not, od_eqI, od_neI, od_ltI, od_le, od_gt, od_ge, od_isN, od_notN, od_inS, od_ninS, od_tup, od_lst, od_dnT, od_lenS, od_lenT, od_lenQ, od_ixT, od_ixQ, od_min, od_int1, od_intB, od_listT, od_tupT, od_cutHQ, List.length_cons, List.length_nil, if_true, true_and, and_true, Bool.not_true, Bool.not_false, Bool.false_eq_true, if_false, ite_true, ite_false, decide_true, decide_false, reduceIte, Option.some.injEq, exists_eq_left', Int.reduceLT, Int.reduceLE, Int.reduceToNat, and_self, true_or, or_true]
    by_cases hc : c ∈ s11
    · simpa [hc] using hk
    · simpa [hc, hrt] using hk
  · split
    · rename_i e
      intro y
      simp only [nameA, e, Bool.and_true] at hq
      simp only [wpCs, wpC, wpT, wpE, wpEs, wpI, asg1, List.getElem?_cons_zero, List.getElem?_cons_succ, List.set_cons_zero, List.set_cons_succ, od_addI, od_addS, od_sub, od_mulI, od_div, od_mod, od_neg, od_not, od_eqI, od_neI, od_ltI, od_le, od_gt, od_ge, od_isN, od_notN, od_inS, od_ninS, od_tup, od_lst, od_dnT, od_lenS, od_lenT, od_lenQ, od_ixT, od_ixQ, od_min, od_int1, od_intB, od_listT, od_tupT, od_cutHQ, List.length_cons, List.length_nil, if_true, true_and, and_true, Bool.not_true, Bool.not_false, Bool.false_eq_true, if_false, ite_true, ite_false, decide_true, decide_false, reduceIte, Option.some.injEq, exists_eq_left', Int.reduceLT, Int.reduceLE, Int.reduceToNat, and_self, true_or, or_true, hl]
      by_cases h1 : 1 ≤ s.length
      · have h1' : (1 : Int) ≤ s.length := by omega
        simp only [h1, decide_true, Bool.true_and] at hq
        simp only [h1', decide_true]
        have e8 : decide ((s.length : Int) ≤ 8) = decide (s.length ≤ 8) := by
          by_cases h8 : s.length ≤ 8
          · have : (s.length : Int) ≤ 8 := by omega
            simp [h8, this]
          · have : ¬ (s.length : Int) ≤ 8 := by omega
            simp [h8, this]
        rw [e8]
        exact hq
      · have h1' : ¬ (1 : Int) ≤ s.length := by omega
        simp only [h1, decide_false, Bool.false_and] at hq
        simp only [h1', decide_false]
        exact hq
    · rename_i e
      rw [Bool.not_eq_true] at e
      simp only [nameA, e, Bool.and_false] at hq
      exact hq
theorem signs3 {wb : Mp.Env → Sto → Kt → Prop} {K : Kt} {a b : D} {al : List Nat} {T : Sto → Prop} (hb : ∀ c (K' : Kt), K'.rt = K.rt → (if c ∈ al then K'.nx [some a, some b, some (.str [c])] S else T S) → wb [some a, some b, some (.str [c])] S K') : ∀ (s : List Nat) (y : Option D), (if s.all (fun c => decide (c ∈ al)) = true then ∀ y, K.nx [some a, some b, y] S else T S) →
    foN (asg1 2) (fun _ => True) wb K (s.map fun c => .str [c]) [some a, some b, y] S
  | [], y, h => ⟨trivial, h y⟩
  | c :: s, y, h => by
    refine ⟨trivial, hb c _ rfl ?_⟩
    by_cases hc : c ∈ al
    · rw [if_pos hc]
      refine signs3 hb s _ ?_
      simpa [hc] using h
    · rw [if_neg hc]
      simpa [hc] using h
/-- a word of figures, not nought where k is not 0 -/
def figB (s : List Nat) (k : Int) : Bool := numW s && (decide (k = 0) || !(decide (valW s = 0)))
theorem sp_figures {s : List Nat} {k : Int} (hl : s.length ≤ LIM) (hq : Q (.bl (figB s k)) S) : wpCall TT FT (n + 1) 18 [.str s, .int k] S Q EX := by
  rw [call__law_figures]
  refine ⟨rfl, ?_⟩
  unfold b__law_figures
  have e1 : s1 = [] := rfl
  have e0 : s0 = [48] := rfl
  by_cases h1 : s = []
  · subst h1
    have : figB [] k = false := by simp [figB, numW]
    rw [this] at hq
    simp only [wpCs, wpC, wpT, wpE, wpEs, wpI, asg1, List.getElem?_cons_zero, List.getElem?_cons_succ, List.set_cons_zero, List.set_cons_succ, od_addI, od_addS, od_sub, od_mulI, od_div, od_mod, od_neg, od_not, od_eqI, od_neI, od_ltI, od_le, od_gt, od_ge, od_isN, od_notN, od_inS, od_ninS, od_tup, od_lst, od_dnT, od_lenS, od_lenT, od_lenQ, od_ixT, od_ixQ, od_min, od_int1, od_intB, od_listT, od_tupT, od_cutHQ, List.length_cons, List.length_nil, if_true, true_and, and_true, Bool.not_true, Bool.not_false, Bool.false_eq_true, if_false, ite_true, ite_false, decide_true, decide_false, reduceIte, Option.some.injEq, exists_eq_left', Int.reduceLT, Int.reduceLE, Int.reduceToNat, and_self, true_or, or_true, od_eqS, e1, e0]
    exact hq
  · by_cases h2 : (60 : Int) < s.length
    · have h2' : ¬ s.length ≤ 60 := by omega
      have h3 : ¬ s = [48] := fun z => by rw [z] at h2'; simp at h2'
      have : figB s k = false := by simp [figB, numW, h2']
      rw [this] at hq
      simp only [wpCs, wpC, wpT, wpE, wpEs, wpI, asg1, List.getElem?_cons_zero, List.getElem?_cons_succ, List.set_cons_zero, List.set_cons_succ, od_addI, od_addS, od_sub, od_mulI, od_div, od_mod, od_neg, od_not, od_eqI, od_neI, od_ltI, od_le, od_gt, od_ge, od_isN, od_notN, od_inS, od_ninS, od_tup, od_lst, od_dnT, od_lenS, od_lenT, od_lenQ, od_ixT, od_ixQ, od_min, od_int1, od_intB, od_listT, od_tupT, od_cutHQ, List.length_cons, List.length_nil, if_true, true_and, and_true, Bool.not_true, Bool.not_false, Bool.false_eq_true, if_false, ite_true, ite_false, decide_true, decide_false, reduceIte, Option.some.injEq, exists_eq_left', Int.reduceLT, Int.reduceLE, Int.reduceToNat, and_self, true_or, or_true, od_eqS, e1, e0, h1, h2, h3, hl]
      exact hq
    · have h2' : s.length ≤ 60 := by omega
      by_cases h3 : s = [48]
      · subst h3
        have : figB [48] k = decide (k = 0) := by
          have a1 : numW [48] = true := by decide
          have a2 : valW [48] = 0 := rfl
          simp [figB, a1, a2]
        rw [this] at hq
        simp only [wpCs, wpC, wpT, wpE, wpEs, wpI, asg1, List.getElem?_cons_zero, List.getElem?_cons_succ, List.set_cons_zero, List.set_cons_succ, od_addI, od_addS, od_sub, od_mulI, od_div, od_mod, od_neg, od_not, od_eqI, od_neI, od_ltI, od_le, od_gt, od_ge, od_isN, od_notN, od_inS, od_ninS, od_tup, od_lst, od_dnT, od_lenS, od_lenT, od_lenQ, od_ixT, od_ixQ, od_min, od_int1, od_intB, od_listT, od_tupT, od_cutHQ, List.length_cons, List.length_nil, if_true, true_and, and_true, Bool.not_true, Bool.not_false, Bool.false_eq_true, if_false, ite_true, ite_false, decide_true, decide_false, reduceIte, Option.some.injEq, exists_eq_left', Int.reduceLT, Int.reduceLE, Int.reduceToNat, and_self, true_or, or_true, od_eqS, e1, e0, h1, hl] at h2 ⊢
        have c1 : ([48] : List Nat).length ≤ LIM := hl
        first
          | exact hq
          | exact ⟨c1, hq⟩
      · simp only [wpCs, wpC, wpT, wpE, wpEs, wpI, asg1, List.getElem?_cons_zero, List.getElem?_cons_succ, List.set_cons_zero, List.set_cons_succ, od_addI, od_addS, od_sub, od_mulI, od_div, od_mod, od_neg, od_not, od_eqI, od_neI, od_ltI, od_le, od_gt, od_ge, od_isN, od_notN, od_inS, od_ninS, od_tup, od_lst, od_dnT, od_lenS, od_lenT, od_lenQ, od_ixT, od_ixQ, od_min, od_int1, od_intB, od_listT, od_tupT, od_cutHQ, List.length_cons, List.length_nil, if_true, true_and, and_true, Bool.not_true, Bool.not_false, Bool.false_eq_true, if_false, ite_true, ite_false, decide_true, decide_false, reduceIte, Option.some.injEq, exists_eq_left', Int.reduceLT, Int.reduceLE, Int.reduceToNat, and_self, true_or, or_true, od_eqS, e1, e0, h1, h2, h3, hl, wk_str]
        refine signs3 (al := s26) (T := fun S => Q (.bl false) S) (fun c K hrt hk => ?_) s none ?_
        · simp only [wpCs, wpC, wpT, wpE, wpEs, wpI, asg1, List.getElem?_cons_zero, List.getElem?_cons_succ, List.set_cons_zero, List.set_cons_succ, od_addI, od_addS, od_sub, od_mulI, od_div, od_mod, od_neg, od_not, od_eqI, od_neI, od_ltI, od_le, od_gt, od_ge, od_isN, od_notN, od_inS, od_ninS, od_tup, od_lst, od_dnT, od_lenS, od_lenT, od_lenQ, od_ixT, od_ixQ, od_min, od_int1, od_intB, od_listT, od_tupT, od_cutHQ, List.length_cons, List.length_nil, if_true, true_and, and_true, Bool.not_true, Bool.not_false, Bool.false_eq_true, if_false, ite_true, ite_false, decide_true, decide_false, reduceIte, Option.some.injEq, exists_eq_left', Int.reduceLT, Int.reduceLE, Int.reduceToNat, and_self, true_or, or_true]
          by_cases hc : c ∈ s26
          · simpa [hc] using hk
          · simpa [hc, hrt] using hk
        · split
          · rename_i e
            intro y
            obtain ⟨c, t, rfl⟩ : ∃ c t, s = c :: t := by
              cases s with
              | nil => exact absurd rfl h1
              | cons c t => exact ⟨c, t, rfl⟩
            have hg : figB (c :: t) k = !decide (([c] : List Nat) = [48]) := by
              have hn : numW (c :: t) = !decide (([c] : List Nat) = [48]) := by
                unfold numW
                rw [e]
                have : ¬ (c :: t : List Nat) = [] := by simp
                by_cases hc : c = 48
                · subst hc
                  have ht : t ≠ [] := fun z => h3 (by rw [z])
                  have : 1 < t.length + 1 := by have := List.length_pos_iff.mpr ht; omega
                  simp [this]
                · simp [hc, h2']
                  simpa using h2'
              unfold figB
              rw [hn]
              by_cases hc : c = 48
              · subst hc; simp
              · have hnw : numW (c :: t) = true := by rw [hn]; simpa using hc
                have nb := numW_back hnw
                have hv : ¬ valW (c :: t) = 0 := fun z => by
                  rw [z] at nb
                  have := nb.1
                  rw [show TL.numL (0 : Int).toNat = [48] from TL.numL_lt (by decide)] at this
                  exact h3 this.symm
                simp [hv]
            rw [hg] at hq
            simp only [wpCs, wpC, wpT, wpE, wpEs, wpI, asg1, List.getElem?_cons_zero, List.getElem?_cons_succ, List.set_cons_zero, List.set_cons_succ, od_addI, od_addS, od_sub, od_mulI, od_div, od_mod, od_neg, od_not, od_eqI, od_neI, od_ltI, od_le, od_gt, od_ge, od_isN, od_notN, od_inS, od_ninS, od_tup, od_lst, od_dnT, od_lenS, od_lenT, od_lenQ, od_ixT, od_ixQ, od_min, od_int1, od_intB, od_listT, od_tupT, od_cutHQ, List.length_cons, List.length_nil, if_true, true_and, and_true, Bool.not_true, Bool.not_false, Bool.false_eq_true, if_false, ite_true, ite_false, decide_true, decide_false, reduceIte, Option.some.injEq, exists_eq_left', Int.reduceLT, Int.reduceLE, Int.reduceToNat, and_self, true_or, or_true, od_ixS hl, at_0, od_neS, e0]
            exact hq
          · rename_i e
            have : figB s k = false := by
              rw [Bool.not_eq_true] at e
              simp [figB, numW, e]
            rw [this] at hq
            exact hq
def leg4 : List (List Nat) → Bool
  | [g, t, w, m] => legW g t w m
  | _ => false
theorem legP_some {ws : List (List Nat)} : (legL ws).isSome = leg4 ws := by
  match ws with
  | [g, t, w, m] =>
    simp only [legL, leg4]
    cases h : legW g t w m <;> simp
  | [] => rfl
  | [_] => rfl
  | [_, _] => rfl
  | [_, _, _] => rfl
  | _ :: _ :: _ :: _ :: _ :: _ => rfl
theorem leg4_ne {ws : List (List Nat)} (h : ws.length ≠ 4) : leg4 ws = false := by
  match ws, h with
  | [], _ => rfl
  | [_], _ => rfl
  | [_, _], _ => rfl
  | [_, _, _], _ => rfl
  | [_, _, _, _], h => exact absurd rfl h
  | _ :: _ :: _ :: _ :: _ :: _, _ => rfl
theorem sp_is_leg' {t : List Nat} (hl : t.length ≤ LN) (hq : ∀ S', Gr S S' → Q (.bl (legP t).isSome) S') : wpCall TT FT (n + 2) 19 [.str t] S Q EX := by
  rw [call__law_is_leg]
  refine ⟨rfl, ?_⟩
  unfold b__law_is_leg
  have hl' : t.length + 2 ≤ LIM := by show t.length + 2 ≤ 16777216; have : t.length ≤ 1000000 := hl; omega
  have hw : ∀ p ∈ wds t, p.length ≤ LIM := fun p hp => by
    have := spl_len _ _ _ _ _ hp
    simp at this; omega
  have tks : ∀ S, tyOk .split S (.str t) = true := fun _ => rfl
  have hq1 : ∀ S', Gr S S' → Q (.bl (legL (wds t)).isSome) S' := hq
  have e : TL.spl s2 0 [] t = wds t := rfl
  generalize wds t = ws at e hw hq1
  rw [legP_some] at hq1
  simp only [wpCs, wpC, wpT, wpE, wpEs, wpI, asg1, List.getElem?_cons_zero, List.getElem?_cons_succ, List.set_cons_zero, List.set_cons_succ, od_addI, od_addS, od_sub, od_mulI, od_div, od_mod, od_neg, od_not, od_eqI, od_neI, od_ltI, od_le, od_gt, od_ge, od_isN, od_notN, od_inS, od_ninS, od_tup, od_lst, od_dnT, od_lenS, od_lenT, od_lenQ, od_ixT, od_ixQ, od_min, od_int1, od_intB, od_listT, od_tupT, od_cutHQ, List.length_cons, List.length_nil, if_true, true_and, and_true, Bool.not_true, Bool.not_false, Bool.false_eq_true, if_false, ite_true, ite_false, decide_true, decide_false, reduceIte, Option.some.injEq, exists_eq_left', Int.reduceLT, Int.reduceLE, Int.reduceToNat, and_self, true_or, or_true, tks, od_split b32 hl', e]
  have h1 := at_push S (.lst (ws.map .str))
  have z := hq1 _ (Gr.push S [.lst (ws.map .str)])
  by_cases h4 : ws.length = 4
  · match ws, h4 with
    | [g, t, w, m], _ =>
      simp only [List.map_cons, List.map_nil, leg4] at h1 z ⊢
      simp only [wpCs, wpC, wpT, wpE, wpEs, wpI, asg1, List.getElem?_cons_zero, List.getElem?_cons_succ, List.set_cons_zero, List.set_cons_succ, od_addI, od_addS, od_sub, od_mulI, od_div, od_mod, od_neg, od_not, od_eqI, od_neI, od_ltI, od_le, od_gt, od_ge, od_isN, od_notN, od_inS, od_ninS, od_tup, od_lst, od_dnT, od_lenS, od_lenT, od_lenQ, od_ixT, od_ixQ, od_min, od_int1, od_intB, od_listT, od_tupT, od_cutHQ, List.length_cons, List.length_nil, if_true, true_and, and_true, Bool.not_true, Bool.not_false, Bool.false_eq_true, if_false, ite_true, ite_false, decide_true, decide_false, reduceIte, Option.some.injEq, exists_eq_left', Int.reduceLT, Int.reduceLE, Int.reduceToNat, and_self, true_or, or_true, od_lenL h1, od_ixL h1, a0, a1, a2, a3]
      refine sp_lword (hw g (by simp)) ?_
      by_cases c1 : nameA (.str g) = true
      · simp only [c1, od_not, Bool.not_true, od_ixL h1, a1, wpCs, wpC, wpT, wpE, wpEs, wpI, asg1, List.getElem?_cons_zero, List.getElem?_cons_succ, List.set_cons_zero, List.set_cons_succ, od_addI, od_addS, od_sub, od_mulI, od_div, od_mod, od_neg, od_not, od_eqI, od_neI, od_ltI, od_le, od_gt, od_ge, od_isN, od_notN, od_inS, od_ninS, od_tup, od_lst, od_dnT, od_lenS, od_lenT, od_lenQ, od_ixT, od_ixQ, od_min, od_int1, od_intB, od_listT, od_tupT, od_cutHQ, List.length_cons, List.length_nil, if_true, true_and, and_true, Bool.not_true, Bool.not_false, Bool.false_eq_true, if_false, ite_true, ite_false, decide_true, decide_false, reduceIte, Option.some.injEq, exists_eq_left', Int.reduceLT, Int.reduceLE, Int.reduceToNat, and_self, true_or, or_true]
        refine sp_lword (hw t (by simp)) ?_
        by_cases c2 : nameA (.str t) = true
        · simp only [c2, od_not, Bool.not_true, od_ixL h1, a2, wpCs, wpC, wpT, wpE, wpEs, wpI, asg1, List.getElem?_cons_zero, List.getElem?_cons_succ, List.set_cons_zero, List.set_cons_succ, od_addI, od_addS, od_sub, od_mulI, od_div, od_mod, od_neg, od_not, od_eqI, od_neI, od_ltI, od_le, od_gt, od_ge, od_isN, od_notN, od_inS, od_ninS, od_tup, od_lst, od_dnT, od_lenS, od_lenT, od_lenQ, od_ixT, od_ixQ, od_min, od_int1, od_intB, od_listT, od_tupT, od_cutHQ, List.length_cons, List.length_nil, if_true, true_and, and_true, Bool.not_true, Bool.not_false, Bool.false_eq_true, if_false, ite_true, ite_false, decide_true, decide_false, reduceIte, Option.some.injEq, exists_eq_left', Int.reduceLT, Int.reduceLE, Int.reduceToNat, and_self, true_or, or_true]
          refine sp_lword (hw w (by simp)) ?_
          by_cases c3 : nameA (.str w) = true
          · simp only [c3, wpCs, wpC, wpT, wpE, wpEs, wpI, asg1, List.getElem?_cons_zero, List.getElem?_cons_succ, List.set_cons_zero, List.set_cons_succ, od_addI, od_addS, od_sub, od_mulI, od_div, od_mod, od_neg, od_not, od_eqI, od_neI, od_ltI, od_le, od_gt, od_ge, od_isN, od_notN, od_inS, od_ninS, od_tup, od_lst, od_dnT, od_lenS, od_lenT, od_lenQ, od_ixT, od_ixQ, od_min, od_int1, od_intB, od_listT, od_tupT, od_cutHQ, List.length_cons, List.length_nil, if_true, true_and, and_true, Bool.not_true, Bool.not_false, Bool.false_eq_true, if_false, ite_true, ite_false, decide_true, decide_false, reduceIte, Option.some.injEq, exists_eq_left', Int.reduceLT, Int.reduceLE, Int.reduceToNat, and_self, true_or, or_true, od_ixL h1, a0, a1, a3, od_neS]
            by_cases c4 : g = t
            · simp only [c4, wpCs, wpC, wpT, wpE, wpEs, wpI, asg1, List.getElem?_cons_zero, List.getElem?_cons_succ, List.set_cons_zero, List.set_cons_succ, od_addI, od_addS, od_sub, od_mulI, od_div, od_mod, od_neg, od_not, od_eqI, od_neI, od_ltI, od_le, od_gt, od_ge, od_isN, od_notN, od_inS, od_ninS, od_tup, od_lst, od_dnT, od_lenS, od_lenT, od_lenQ, od_ixT, od_ixQ, od_min, od_int1, od_intB, od_listT, od_tupT, od_cutHQ, List.length_cons, List.length_nil, if_true, true_and, and_true, Bool.not_true, Bool.not_false, Bool.false_eq_true, if_false, ite_true, ite_false, decide_true, decide_false, reduceIte, Option.some.injEq, exists_eq_left', Int.reduceLT, Int.reduceLE, Int.reduceToNat, and_self, true_or, or_true]
              have : legW g t w m = false := by simp [legW, c4]
              rw [this] at z
              subst c4
              exact z
            · simp only [c4, wpCs, wpC, wpT, wpE, wpEs, wpI, asg1, List.getElem?_cons_zero, List.getElem?_cons_succ, List.set_cons_zero, List.set_cons_succ, od_addI, od_addS, od_sub, od_mulI, od_div, od_mod, od_neg, od_not, od_eqI, od_neI, od_ltI, od_le, od_gt, od_ge, od_isN, od_notN, od_inS, od_ninS, od_tup, od_lst, od_dnT, od_lenS, od_lenT, od_lenQ, od_ixT, od_ixQ, od_min, od_int1, od_intB, od_listT, od_tupT, od_cutHQ, List.length_cons, List.length_nil, if_true, true_and, and_true, Bool.not_true, Bool.not_false, Bool.false_eq_true, if_false, ite_true, ite_false, decide_true, decide_false, reduceIte, Option.some.injEq, exists_eq_left', Int.reduceLT, Int.reduceLE, Int.reduceToNat, and_self, true_or, or_true, od_ixL h1, a3]
              refine sp_figures (hw m (by simp)) ?_
              have : legW g t w m = figB m 1 := by simp [legW, c1, c2, c3, c4, figB]
              rw [this] at z
              exact z
          · rw [Bool.not_eq_true] at c3
            have : legW g t w m = false := by simp [legW, c3]
            rw [this] at z
            simp only [c3, wpCs, wpC, wpT, wpE, wpEs, wpI, asg1, List.getElem?_cons_zero, List.getElem?_cons_succ, List.set_cons_zero, List.set_cons_succ, od_addI, od_addS, od_sub, od_mulI, od_div, od_mod, od_neg, od_not, od_eqI, od_neI, od_ltI, od_le, od_gt, od_ge, od_isN, od_notN, od_inS, od_ninS, od_tup, od_lst, od_dnT, od_lenS, od_lenT, od_lenQ, od_ixT, od_ixQ, od_min, od_int1, od_intB, od_listT, od_tupT, od_cutHQ, List.length_cons, List.length_nil, if_true, true_and, and_true, Bool.not_true, Bool.not_false, Bool.false_eq_true, if_false, ite_true, ite_false, decide_true, decide_false, reduceIte, Option.some.injEq, exists_eq_left', Int.reduceLT, Int.reduceLE, Int.reduceToNat, and_self, true_or, or_true]
            exact z
        · rw [Bool.not_eq_true] at c2
          have : legW g t w m = false := by simp [legW, c2]
          rw [this] at z
          simp only [c2, wpCs, wpC, wpT, wpE, wpEs, wpI, asg1, List.getElem?_cons_zero, List.getElem?_cons_succ, List.set_cons_zero, List.set_cons_succ, od_addI, od_addS, od_sub, od_mulI, od_div, od_mod, od_neg, od_not, od_eqI, od_neI, od_ltI, od_le, od_gt, od_ge, od_isN, od_notN, od_inS, od_ninS, od_tup, od_lst, od_dnT, od_lenS, od_lenT, od_lenQ, od_ixT, od_ixQ, od_min, od_int1, od_intB, od_listT, od_tupT, od_cutHQ, List.length_cons, List.length_nil, if_true, true_and, and_true, Bool.not_true, Bool.not_false, Bool.false_eq_true, if_false, ite_true, ite_false, decide_true, decide_false, reduceIte, Option.some.injEq, exists_eq_left', Int.reduceLT, Int.reduceLE, Int.reduceToNat, and_self, true_or, or_true]
          exact z
      · rw [Bool.not_eq_true] at c1
        have : legW g t w m = false := by simp [legW, c1]
        rw [this] at z
        simp only [c1, wpCs, wpC, wpT, wpE, wpEs, wpI, asg1, List.getElem?_cons_zero, List.getElem?_cons_succ, List.set_cons_zero, List.set_cons_succ, od_addI, od_addS, od_sub, od_mulI, od_div, od_mod, od_neg, od_not, od_eqI, od_neI, od_ltI, od_le, od_gt, od_ge, od_isN, od_notN, od_inS, od_ninS, od_tup, od_lst, od_dnT, od_lenS, od_lenT, od_lenQ, od_ixT, od_ixQ, od_min, od_int1, od_intB, od_listT, od_tupT, od_cutHQ, List.length_cons, List.length_nil, if_true, true_and, and_true, Bool.not_true, Bool.not_false, Bool.false_eq_true, if_false, ite_true, ite_false, decide_true, decide_false, reduceIte, Option.some.injEq, exists_eq_left', Int.reduceLT, Int.reduceLE, Int.reduceToNat, and_self, true_or, or_true]
        exact z
  · have h4' : ¬ ((ws.length : Int) = 4) := by omega
    have := leg4_ne h4
    rw [this] at z
    simp only [od_lenL h1, wpCs, wpC, wpT, wpE, wpEs, wpI, asg1, List.getElem?_cons_zero, List.getElem?_cons_succ, List.set_cons_zero, List.set_cons_succ, od_addI, od_addS, od_sub, od_mulI, od_div, od_mod, od_neg, od_not, od_eqI, od_neI, od_ltI, od_le, od_gt, od_ge, od_isN, od_notN, od_inS, od_ninS, od_tup, od_lst, od_dnT, od_lenS, od_lenT, od_lenQ, od_ixT, od_ixQ, od_min, od_int1, od_intB, od_listT, od_tupT, od_cutHQ, List.length_cons, List.length_nil, if_true, true_and, and_true, Bool.not_true, Bool.not_false, Bool.false_eq_true, if_false, ite_true, ite_false, decide_true, decide_false, reduceIte, Option.some.injEq, exists_eq_left', Int.reduceLT, Int.reduceLE, Int.reduceToNat, and_self, true_or, or_true, List.length_map, h4']
    exact z
/-- a deal's words -/
def dealB : List (List Nat) → Bool
  | _ :: w1 :: w2 :: r => nameA (.str w1) && ((lgs (TL.joinL [32] (w2 :: r))).all (fun p => (legP p).isSome) && decide ((lgs (TL.joinL [32] (w2 :: r))).length ≤ 8))
  | _ => false
theorem sp_is_deal {ws : List (List Nat)} {r : Nat} (hr : S[r]? = some (.lst (ws.map .str))) (hw : ∀ p ∈ ws, p.length ≤ LIM) (hj : (TL.joinL [32] ws).length ≤ 900000) (hs : (ws.map (·.length)).sum + ws.length ≤ 1000000) (hq : ∀ S', Gr S S' → Q (.bl (dealB ws)) S') : wpCall TT FT (n + 3) 20 [.ref r] S Q EX := by
  rw [call__law_is_deal]
  refine ⟨rfl, ?_⟩
  unfold b__law_is_deal
  have z := hq S (Gr.refl S)
  by_cases h3 : (ws.length : Int) < 3
  · have : dealB ws = false := by
      match ws, h3 with
      | [], _ => rfl
      | [_], _ => rfl
      | [_, _], _ => rfl
      | _ :: _ :: _ :: _, h => simp at h; omega
    rw [this] at z
    simp only [wpCs, wpC, wpT, wpE, wpEs, wpI, asg1, List.getElem?_cons_zero, List.getElem?_cons_succ, List.set_cons_zero, List.set_cons_succ, od_addI, od_addS, od_sub, od_mulI, od_div, od_mod, od_neg, od_not, od_eqI, od_neI, od_ltI, od_le, od_gt, od_ge, od_isN, od_notN, od_inS, od_ninS, od_tup, od_lst, od_dnT, od_lenS, od_lenT, od_lenQ, od_ixT, od_ixQ, od_min, od_int1, od_intB, od_listT, od_tupT, od_cutHQ, List.length_cons, List.length_nil, if_true, true_and, and_true, Bool.not_true, Bool.not_false, Bool.false_eq_true, if_false, ite_true, ite_false, decide_true, decide_false, reduceIte, Option.some.injEq, exists_eq_left', Int.reduceLT, Int.reduceLE, Int.reduceToNat, and_self, true_or, or_true, od_lenL hr, List.length_map, h3]
    exact z
  · obtain ⟨w0, w1, w2, rest, rfl⟩ : ∃ w0 w1 w2 rest, ws = w0 :: w1 :: w2 :: rest := by
      match ws, h3 with
      | [], h => simp at h
      | [_], h => simp at h
      | [_, _], h => simp at h
      | w0 :: w1 :: w2 :: rest, _ => exact ⟨w0, w1, w2, rest, rfl⟩
    have h3' : ¬ (((w0 :: w1 :: w2 :: rest).map D.str).length : Int) < 3 := by simpa using h3
    have hr' := hr
    simp only [List.map_cons] at hr'
    rw [wpCs, wpC]
    simp only [wpT, wpE, wpEs, List.getElem?_cons_zero, od_lenL hr, od_ltI, h3', decide_false, od_ixL hr', at_1]
    refine ⟨_, rfl, ?_⟩
    refine sp_lword (hw w1 (by simp)) ?_
    by_cases c1 : nameA (.str w1) = true
    · simp only [c1, od_not, Bool.not_true, Bool.false_eq_true, if_false]
      show wpCs TT (wpCall TT FT (n + 2)) none (dropC 1 b__law_is_deal) [some (.ref r), none, none] S (Kc Q) EX
      have hz : dealB (w0 :: w1 :: w2 :: rest) = ((lgs (TL.joinL [32] (w2 :: rest))).all (fun p => (legP p).isSome) && decide ((lgs (TL.joinL [32] (w2 :: rest))).length ≤ 8)) := by simp [dealB, c1]
      rw [hz] at hq
      have jl : (TL.joinL [32] (w2 :: rest)).length ≤ 900000 := by
        rw [joinL_cons, joinL_cons] at hj
        simp only [List.length_append] at hj
        omega
      have sl : (((w2 :: rest).map (·.length)).sum + (w2 :: rest).length * s2.length) ≤ LIM := by
        simp only [List.map_cons, List.sum_cons, List.length_cons] at hs ⊢
        show _ ≤ 16777216
        have : s2.length = 1 := rfl
        rw [this]
        omega
      have tkj : ∀ S, tyOk .join S (.str s2) = true := fun _ => rfl
      have tks : ∀ S a, tyOk .split S (.str a) = true := fun _ _ => rfl
      have hd : List.drop (2 : Int).toNat ((w0 :: w1 :: w2 :: rest).map D.str) = (w2 :: rest).map D.str := rfl
      have e32 : TL.joinL s2 (w2 :: rest) = TL.joinL [32] (w2 :: rest) := rfl
      generalize w2 :: rest = us at jl sl hq hd e32 hr
      have jl2 : (TL.joinL [32] us).length + 2 ≤ LIM := by show _ ≤ 16777216; omega
      have ej : TL.spl s3 0 [] (TL.joinL [32] us) = lgs (TL.joinL [32] us) := rfl
      have hpl : ∀ p ∈ lgs (TL.joinL [32] us), p.length ≤ LN := fun p hp => by
        have := spl_len _ _ _ _ _ hp
        simp at this; show _ ≤ 1000000; omega
      generalize lgs (TL.joinL [32] us) = ps at hq ej hpl
      simp only [b__law_is_deal, dropC]
      rw [wpCs, wpC]
      simp only [wpE, wpEs, List.getElem?_cons_zero, tkj, true_and, od_cutLL hr, hd]
      refine ⟨by decide, ?_⟩
      rw [od_joinL (at_push _ _)]
      refine ⟨sl, ?_⟩
      rw [e32]
      refine ⟨tks _ _, ?_⟩
      rw [od_split b44 jl2, ej]
      have h2 := at_push (S ++ [Ob.lst (us.map D.str)]) (.lst (ps.map .str))
      have gS : Gr S (S ++ [Ob.lst (us.map D.str)] ++ [.lst (ps.map .str)]) := (Gr.push _ _).trans (Gr.push _ _)
      generalize hr2 : (S ++ [Ob.lst (us.map D.str)]).length = r2 at h2
      generalize (S ++ [Ob.lst (us.map D.str)] ++ [.lst (ps.map .str)]) = S2 at h2 gS
      simp only [List.set_cons_zero, List.set_cons_succ]
      rw [wpCs, wpC]
      simp only [wpI, wpE, List.getElem?_cons_zero, List.getElem?_cons_succ, wk_lst h2]
      refine foN_ix (P := fun j ρ S' => Gr S2 S' ∧ (∀ p ∈ ps.take j, (legP p).isSome = true) ∧ ∃ y, ρ = [some (.ref r), some (.ref r2), y]) (fun _ _ S' z => sq_lst (z.1 _ _ h2)) ?_ ?_ _ _ ⟨Gr.refl _, fun p hp => by simp at hp, _, rfl⟩
      · rintro j x ρ S' K' hx ⟨g, hall, y, rfl⟩ hnx hrt
        rw [List.getElem?_map] at hx
        obtain ⟨p, hp, rfl⟩ := Option.map_eq_some_iff.mp hx
        have hpm := List.mem_of_getElem? hp
        refine ⟨_, rfl, ?_⟩
        simp only [wpCs, wpC, wpT, wpE, wpEs, wpI, asg1, List.getElem?_cons_zero, List.getElem?_cons_succ, List.set_cons_zero, List.set_cons_succ, od_addI, od_addS, od_sub, od_mulI, od_div, od_mod, od_neg, od_not, od_eqI, od_neI, od_ltI, od_le, od_gt, od_ge, od_isN, od_notN, od_inS, od_ninS, od_tup, od_lst, od_dnT, od_lenS, od_lenT, od_lenQ, od_ixT, od_ixQ, od_min, od_int1, od_intB, od_listT, od_tupT, od_cutHQ, List.length_cons, List.length_nil, if_true, true_and, and_true, Bool.not_true, Bool.not_false, Bool.false_eq_true, if_false, ite_true, ite_false, decide_true, decide_false, reduceIte, Option.some.injEq, exists_eq_left', Int.reduceLT, Int.reduceLE, Int.reduceToNat, and_self, true_or, or_true]
        refine sp_is_leg' (hpl p hpm) fun S3 g3 => ?_
        by_cases c : (legP p).isSome = true
        · simp only [c, wpCs, wpC, wpT, wpE, wpEs, wpI, asg1, List.getElem?_cons_zero, List.getElem?_cons_succ, List.set_cons_zero, List.set_cons_succ, od_addI, od_addS, od_sub, od_mulI, od_div, od_mod, od_neg, od_not, od_eqI, od_neI, od_ltI, od_le, od_gt, od_ge, od_isN, od_notN, od_inS, od_ninS, od_tup, od_lst, od_dnT, od_lenS, od_lenT, od_lenQ, od_ixT, od_ixQ, od_min, od_int1, od_intB, od_listT, od_tupT, od_cutHQ, List.length_cons, List.length_nil, if_true, true_and, and_true, Bool.not_true, Bool.not_false, Bool.false_eq_true, if_false, ite_true, ite_false, decide_true, decide_false, reduceIte, Option.some.injEq, exists_eq_left', Int.reduceLT, Int.reduceLE, Int.reduceToNat, and_self, true_or, or_true]
          refine hnx _ _ ⟨g.trans g3, fun q hq => ?_, _, rfl⟩
          rw [List.take_succ, hp] at hq
          rcases List.mem_append.mp hq with hq | hq
          · exact hall q hq
          · simp at hq; rw [hq]; exact c
        · rw [Bool.not_eq_true] at c
          have hf : ps.all (fun p => (legP p).isSome) = false := by
            rw [List.all_eq_false]
            exact ⟨p, hpm, by rw [c]; exact Bool.false_ne_true⟩
          have z := hq S3 ((gS.trans g).trans g3)
          rw [hf, Bool.false_and] at z
          simp only [c, wpCs, wpC, wpT, wpE, wpEs, wpI, asg1, List.getElem?_cons_zero, List.getElem?_cons_succ, List.set_cons_zero, List.set_cons_succ, od_addI, od_addS, od_sub, od_mulI, od_div, od_mod, od_neg, od_not, od_eqI, od_neI, od_ltI, od_le, od_gt, od_ge, od_isN, od_notN, od_inS, od_ninS, od_tup, od_lst, od_dnT, od_lenS, od_lenT, od_lenQ, od_ixT, od_ixQ, od_min, od_int1, od_intB, od_listT, od_tupT, od_cutHQ, List.length_cons, List.length_nil, if_true, true_and, and_true, Bool.not_true, Bool.not_false, Bool.false_eq_true, if_false, ite_true, ite_false, decide_true, decide_false, reduceIte, Option.some.injEq, exists_eq_left', Int.reduceLT, Int.reduceLE, Int.reduceToNat, and_self, true_or, or_true, hrt]
          exact z
      · rintro ρ S' ⟨g, hall, y, rfl⟩
        have ht : ps.all (fun p => (legP p).isSome) = true := List.all_eq_true.mpr fun p hp => hall p (by
          rw [List.length_map, List.take_length]; exact hp)
        have z := hq S' (gS.trans g)
        rw [ht, Bool.true_and] at z
        simp only [wpCs, wpC, wpT, wpE, wpEs, wpI, asg1, List.getElem?_cons_zero, List.getElem?_cons_succ, List.set_cons_zero, List.set_cons_succ, od_addI, od_addS, od_sub, od_mulI, od_div, od_mod, od_neg, od_not, od_eqI, od_neI, od_ltI, od_le, od_gt, od_ge, od_isN, od_notN, od_inS, od_ninS, od_tup, od_lst, od_dnT, od_lenS, od_lenT, od_lenQ, od_ixT, od_ixQ, od_min, od_int1, od_intB, od_listT, od_tupT, od_cutHQ, List.length_cons, List.length_nil, if_true, true_and, and_true, Bool.not_true, Bool.not_false, Bool.false_eq_true, if_false, ite_true, ite_false, decide_true, decide_false, reduceIte, Option.some.injEq, exists_eq_left', Int.reduceLT, Int.reduceLE, Int.reduceToNat, and_self, true_or, or_true, od_lenL (g _ _ h2), List.length_map]
        have e8 : decide ((ps.length : Int) ≤ 8) = decide (ps.length ≤ 8) := by
          by_cases h8 : ps.length ≤ 8
          · have : (ps.length : Int) ≤ 8 := by omega
            simp [h8, this]
          · have : ¬ (ps.length : Int) ≤ 8 := by omega
            simp [h8, this]
        rw [e8]
        exact z
    · rw [Bool.not_eq_true] at c1
      have : dealB (w0 :: w1 :: w2 :: rest) = false := by simp [dealB, c1]
      rw [this] at z
      simp only [c1, wpCs, wpC, wpT, wpE, wpEs, wpI, asg1, List.getElem?_cons_zero, List.getElem?_cons_succ, List.set_cons_zero, List.set_cons_succ, od_addI, od_addS, od_sub, od_mulI, od_div, od_mod, od_neg, od_not, od_eqI, od_neI, od_ltI, od_le, od_gt, od_ge, od_isN, od_notN, od_inS, od_ninS, od_tup, od_lst, od_dnT, od_lenS, od_lenT, od_lenQ, od_ixT, od_ixQ, od_min, od_int1, od_intB, od_listT, od_tupT, od_cutHQ, List.length_cons, List.length_nil, if_true, true_and, and_true, Bool.not_true, Bool.not_false, Bool.false_eq_true, if_false, ite_true, ite_false, decide_true, decide_false, reduceIte, Option.some.injEq, exists_eq_left', Int.reduceLT, Int.reduceLE, Int.reduceToNat, and_self, true_or, or_true]
      exact z
/-! ### the law's own reading of a text -/
theorem len_join : ∀ {ws : List (List Nat)}, ws ≠ [] → (TL.joinL [32] ws).length + 1 = (ws.map (·.length)).sum + ws.length
  | [], h => absurd rfl h
  | [p], _ => by simp [TL.joinL]
  | p :: q :: r, _ => by
    have := len_join (ws := q :: r) (by simp)
    rw [joinL_cons]
    simp only [List.length_append, List.map_cons, List.sum_cons, List.length_cons, List.length_nil] at this ⊢
    omega
theorem eq_test {C : Calls} {A T : Cms} {s w0 : List Nat} {r : Nat} {l : List D} {ρ : Mp.Env} {K : Kt} (h1 : ρ[1]? = some (some (.ref r))) (hr : S[r]? = some (.lst (.str w0 :: l)))
    (h : if w0 = s then wpCs TT C none A ρ S { K with nx := fun ρ' S' => wpCs TT C none T ρ' S' K EX } EX else wpCs TT C none T ρ S K EX) :
    wpCs TT C none (.cons (.ite (.op .eq (.cons (.op .ix (.cons (.var 1) (.cons (.cst (.int 0)) .nil))) (.cons (.cst (.str s)) .nil))) A .nil) T) ρ S K EX := by
  rw [wpCs, wpC]
  simp only [wpT, wpE, wpEs, h1, od_ixL hr, at_0]
  refine ⟨_, rfl, ?_⟩
  rw [od_eqS]
  by_cases k : w0 = s
  · rw [if_pos k] at h
    simp only [k, decide_true, if_true]
    exact h
  · rw [if_neg k] at h
    simp only [k, decide_false, Bool.false_eq_true, if_false]
    exact h
theorem deal_head {t : List Nat} (h : t.take 5 = s10) : wds t = s18 :: wds (t.drop 5) := by
  have e : t = s18 ++ ([32] ++ t.drop 5) := by
    have := List.take_append_drop 5 t
    rw [h] at this
    exact this.symm
  have := TL.spl_part1 (s := 32) (S := []) (p := s18) (rest := t.drop 5) (acc := []) (by decide)
  have z : TL.spl [32] 0 [] t = TL.spl [32] 0 [] (s18 ++ ([32] ++ t.drop 5)) := by rw [← e]
  unfold wds
  rw [z]
  exact this
theorem deal_read {t : List Nat} {l : List (List Nat)} (h : wds t = s18 :: l) : (readP t).isSome = dealB (s18 :: l) := by
  have hj := join_wds t
  match l, h with
  | [], h =>
    rw [h] at hj
    have ht : t = s18 := hj.symm
    subst ht
    decide
  | w1 :: r, h =>
    rw [h, joinL_cons] at hj
    have h5 : t.take 5 = s10 := by rw [← hj]; rfl
    have hd := deal_head h5
    rw [h] at hd
    injection hd with _ hu
    unfold readP
    rw [if_pos h5]
    unfold offerP
    cases hpar : TL.par [32] [] (t.drop 5) with
    | none =>
      have := par_non hpar
      rw [this] at hu
      injection hu with _ hr
      subst hr
      rfl
    | some p =>
      obtain ⟨nm, rest⟩ := p
      have hp := (par_some hpar).1
      rw [hp] at hu
      injection hu with hn hr
      subst hn
      have hrj := join_wds rest
      rw [← hr] at hrj
      obtain ⟨w2, r', e2⟩ : ∃ w2 r', r = w2 :: r' := by
        cases r with
        | nil => exact absurd hr.symm (spl_ne _ _ _ _)
        | cons w2 r' => exact ⟨w2, r', rfl⟩
      subst e2
      show (legsR w1 rest).isSome = _
      simp only [legsR, dealB, hrj]
      cases nameA (.str w1) <;> cases (lgs rest).all (fun p => (legP p).isSome) <;> cases decide ((lgs rest).length ≤ 8) <;> rfl
theorem fig0 {w : List Nat} : figB w 0 = numW w := by simp [figB]
theorem fig1 {w : List Nat} : figB w 1 = (numW w && !(decide (valW w = 0))) := by simp [figB]
def shelfOk (k : Nat) (ws : List (List Nat)) : Bool := match ws with
  | _ :: w1 :: w2 :: _ => decide (ws.length = k) && (nameA (.str w1) && nameA (.str w2))
  | _ => false
theorem shelf_test {k : Nat} {T : Cms} {ws : List (List Nat)} {r : Nat} {y : Option D} {K : Kt} (hk : 3 ≤ k) (hr : S[r]? = some (.lst (ws.map .str))) (hw : ∀ p ∈ ws, p.length ≤ LIM)
    (h : if shelfOk k ws = true then wpCs TT (wpCall TT FT (n + 1)) none T [y, some (.ref r)] S K EX else K.rt (.bl false) S) :
    wpCs TT (wpCall TT FT (n + 1)) none (.cons (.ite (.or (.op .ne (.cons (.op .len (.cons (.var 1) .nil)) (.cons (.cst (.int (k : Nat))) .nil))) (.or (.op .bnot (.cons (.call 17 (.cons (.op .ix (.cons (.var 1) (.cons (.cst (.int 1)) .nil))) .nil)) .nil)) (.op .bnot (.cons (.call 17 (.cons (.op .ix (.cons (.var 1) (.cons (.cst (.int 2)) .nil))) .nil)) .nil)))) (.cons (.ret (.cst (.bl false))) .nil) .nil) T) [y, some (.ref r)] S K EX := by
  by_cases hl : ws.length = k
  · obtain ⟨w0, w1, w2, rest, rfl⟩ : ∃ w0 w1 w2 rest, ws = w0 :: w1 :: w2 :: rest := by
      match ws, hl with
      | [], h => simp at h; omega
      | [_], h => simp at h; omega
      | [_, _], h => simp at h; omega
      | w0 :: w1 :: w2 :: rest, _ => exact ⟨w0, w1, w2, rest, rfl⟩
    have hl' : (((w0 :: w1 :: w2 :: rest).map D.str).length : Int) = (k : Nat) := by rw [List.length_map]; omega
    have hr' := hr
    simp only [List.map_cons] at hr'
    rw [wpCs, wpC]
    simp only [wpT, wpE, wpEs, List.getElem?_cons_zero, List.getElem?_cons_succ, od_lenL hr, od_neI, hl', decide_true, Bool.not_true, od_ixL hr', at_1]
    refine ⟨_, rfl, ?_⟩
    refine sp_lword (hw w1 (by simp)) ?_
    cases c1 : nameA (.str w1) with
    | false =>
      rw [if_neg (by simp [shelfOk, c1])] at h
      simp only [wpCs, wpC, wpT, wpE, wpEs, wpI, asg1, List.getElem?_cons_zero, List.getElem?_cons_succ, List.set_cons_zero, List.set_cons_succ, od_addI, od_addS, od_sub, od_mulI, od_div, od_mod, od_neg, od_not, od_eqI, od_neI, od_ltI, od_le, od_gt, od_ge, od_isN, od_notN, od_inS, od_ninS, od_tup, od_lst, od_dnT, od_lenS, od_lenT, od_lenQ, od_ixT, od_ixQ, od_min, od_int1, od_intB, od_listT, od_tupT, od_cutHQ, List.length_cons, List.length_nil, if_true, true_and, and_true, Bool.not_true, Bool.not_false, Bool.false_eq_true, if_false, ite_true, ite_false, decide_true, decide_false, reduceIte, Option.some.injEq, exists_eq_left', Int.reduceLT, Int.reduceLE, Int.reduceToNat, and_self, true_or, or_true]
      exact h
    | true =>
      simp only [od_not, Bool.not_true, od_ixL hr', at_2]
      refine ⟨_, rfl, ?_⟩
      refine sp_lword (hw w2 (by simp)) ?_
      cases c2 : nameA (.str w2) with
      | false =>
        rw [if_neg (by simp [shelfOk, c2])] at h
        simp only [wpCs, wpC, wpT, wpE, wpEs, wpI, asg1, List.getElem?_cons_zero, List.getElem?_cons_succ, List.set_cons_zero, List.set_cons_succ, od_addI, od_addS, od_sub, od_mulI, od_div, od_mod, od_neg, od_not, od_eqI, od_neI, od_ltI, od_le, od_gt, od_ge, od_isN, od_notN, od_inS, od_ninS, od_tup, od_lst, od_dnT, od_lenS, od_lenT, od_lenQ, od_ixT, od_ixQ, od_min, od_int1, od_intB, od_listT, od_tupT, od_cutHQ, List.length_cons, List.length_nil, if_true, true_and, and_true, Bool.not_true, Bool.not_false, Bool.false_eq_true, if_false, ite_true, ite_false, decide_true, decide_false, reduceIte, Option.some.injEq, exists_eq_left', Int.reduceLT, Int.reduceLE, Int.reduceToNat, and_self, true_or, or_true]
        exact h
      | true =>
        rw [if_pos (by simp only [shelfOk, c1, c2, hl, decide_true, Bool.and_self])] at h
        simp only [od_not, Bool.not_true, Bool.false_eq_true, if_false]
        exact h
  · have hl' : ¬ ((ws.map D.str).length : Int) = (k : Nat) := by rw [List.length_map]; omega
    have hf : shelfOk k ws = false := by
      match ws, hl with
      | [], _ => rfl
      | [_], _ => rfl
      | [_, _], _ => rfl
      | _ :: _ :: _ :: _, h => simp only [shelfOk, h, decide_false, Bool.false_and]
    rw [if_neg (by rw [hf]; exact Bool.false_ne_true)] at h
    rw [wpCs, wpC]
    simp only [wpT, wpE, wpEs, List.getElem?_cons_zero, List.getElem?_cons_succ, od_lenL hr, od_neI, hl', decide_false, Bool.not_false, if_true]
    exact h
theorem sp_good {t : List Nat} (hl : t.length ≤ 400000) (hq : ∀ S', Gr S S' → Q (.bl (readP t).isSome) S') : wpCall TT FT (n + 4) 21 [.str t] S Q EX := by
  rw [call__law_good]
  refine ⟨rfl, ?_⟩
  show wpCs TT (wpCall TT FT (n + 3)) none (catC 2 b__law_good (dropC 2 b__law_good)) [some (.str t), none] S (Kc Q) EX
  generalize hT : dropC 2 b__law_good = T
  have hl' : t.length + 2 ≤ LIM := by show t.length + 2 ≤ 16777216; omega
  have hw : ∀ p ∈ wds t, p.length ≤ LIM := fun p hp => by
    have := spl_len _ _ _ _ _ hp
    simp at this; omega
  have tks : ∀ S, tyOk .split S (.str t) = true := fun _ => rfl
  have e : TL.spl s2 0 [] t = wds t := rfl
  have hne : wds t ≠ [] := spl_ne _ _ _ _
  have hj := join_wds t
  have hlen := len_join hne
  rw [hj] at hlen
  simp only [b__law_good, catC]
  simp only [wpCs, wpC, wpT, wpE, wpEs, wpI, asg1, List.getElem?_cons_zero, List.getElem?_cons_succ, List.set_cons_zero, List.set_cons_succ, od_addI, od_addS, od_sub, od_mulI, od_div, od_mod, od_neg, od_not, od_eqI, od_neI, od_ltI, od_le, od_gt, od_ge, od_isN, od_notN, od_inS, od_ninS, od_tup, od_lst, od_dnT, od_lenS, od_lenT, od_lenQ, od_ixT, od_ixQ, od_min, od_int1, od_intB, od_listT, od_tupT, od_cutHQ, List.length_cons, List.length_nil, if_true, true_and, and_true, Bool.not_true, Bool.not_false, Bool.false_eq_true, if_false, ite_true, ite_false, decide_true, decide_false, reduceIte, Option.some.injEq, exists_eq_left', Int.reduceLT, Int.reduceLE, Int.reduceToNat, and_self, true_or, or_true, isS, Ty.le, tks, od_split b32 hl', e]
  subst hT
  have h1 := at_push S (.lst ((wds t).map .str))
  have g1 := Gr.push S [.lst ((wds t).map .str)]
  generalize S ++ [Ob.lst ((wds t).map .str)] = S1 at h1 g1
  generalize S.length = r at h1
  have hq1 : ∀ S', Gr S1 S' → Q (.bl (readP t).isSome) S' := fun S' g => hq S' (g1.trans g)
  have hdh : t.take 5 = s10 → ∃ l, wds t = s18 :: l := fun h => ⟨_, deal_head h⟩
  have hdr : ∀ l, wds t = s18 :: l → (readP t).isSome = dealB (s18 :: l) := fun l h => deal_read h
  have hrd : t.take 5 ≠ s10 → readP t = wordsP (wds t) := fun h => by unfold readP; rw [if_neg h]
  have hbell : wds s9 = [s9] := by decide
  have hbe : t = s9 ↔ wds t = [s9] := ⟨fun h => by rw [h]; exact hbell, fun h => by rw [h] at hj; exact hj.symm⟩
  generalize wds t = ws at hw hne hj hlen h1 hdh hdr hrd hbe
  obtain ⟨w0, l, rfl⟩ : ∃ w0 l, ws = w0 :: l := by
    cases ws with
    | nil => exact absurd rfl hne
    | cons c t => exact ⟨c, t, rfl⟩
  have h1' := h1
  rw [List.map_cons] at h1'
  simp only [b__law_good, dropC]
  refine eq_test rfl h1' ?_
  by_cases k1 : w0 = s18
  · rw [if_pos k1]
    subst k1
    rw [hdr l rfl] at hq1
    simp only [wpCs, wpC, wpT, wpE, wpEs, wpI, asg1, List.getElem?_cons_zero, List.getElem?_cons_succ, List.set_cons_zero, List.set_cons_succ]
    refine sp_is_deal (n := n) h1 hw (by rw [hj]; omega) (by omega) hq1
  rw [if_neg k1]
  have h5 : t.take 5 ≠ s10 := fun h => by
    obtain ⟨l', e⟩ := hdh h
    injection e with e _
    exact k1 e
  rw [hrd h5] at hq1
  have z := hq1 S1 (Gr.refl _)
  refine eq_test rfl h1' ?_
  by_cases k2 : w0 = s8
  · rw [if_pos k2]
    subst k2
    by_cases c2 : (((s8 :: l).map D.str).length : Int) = 2
    · match l, c2 with
      | [w1], c2 =>
        simp only [List.map_cons, List.map_nil] at h1 c2
        simp only [wpCs, wpC, wpT, wpE, wpEs, wpI, asg1, List.getElem?_cons_zero, List.getElem?_cons_succ, List.set_cons_zero, List.set_cons_succ, od_addI, od_addS, od_sub, od_mulI, od_div, od_mod, od_neg, od_not, od_eqI, od_neI, od_ltI, od_le, od_gt, od_ge, od_isN, od_notN, od_inS, od_ninS, od_tup, od_lst, od_dnT, od_lenS, od_lenT, od_lenQ, od_ixT, od_ixQ, od_min, od_int1, od_intB, od_listT, od_tupT, od_cutHQ, List.length_cons, List.length_nil, if_true, true_and, and_true, Bool.not_true, Bool.not_false, Bool.false_eq_true, if_false, ite_true, ite_false, decide_true, decide_false, reduceIte, Option.some.injEq, exists_eq_left', Int.reduceLT, Int.reduceLE, Int.reduceToNat, and_self, true_or, or_true, od_lenL h1, od_ixL h1, at_1]
        refine sp_lword (hw w1 (by simp)) ?_
        simp only [wordsP, if_true] at z
        cases hn : nameA (.str w1) <;> rw [hn] at z <;> simpa using z
      | [], c => simp at c
      | _ :: _ :: _, c => simp at c; omega
    · have : (wordsP (s8 :: l)).isSome = false := by
        match l, c2 with
        | [], _ => decide
        | [_], c => simp at c
        | [_, _], _ => rfl
        | [_, _, _], _ => 
          have a1 : ¬ (s8 = s6) := by decide
          have a2 : ¬ (s8 = s5) := by decide
          have a3 : ¬ (s8 = s4) := by decide
          simp [wordsP, shelfL, a1, a2, a3]
        | [_, _, _, _], _ =>
          have a1 : ¬ (s8 = s7) := by decide
          simp [wordsP, a1]
        | _ :: _ :: _ :: _ :: _ :: _, _ => rfl
      rw [this] at z
      simp only [wpCs, wpC, wpT, wpE, wpEs, wpI, asg1, List.getElem?_cons_zero, List.getElem?_cons_succ, List.set_cons_zero, List.set_cons_succ, od_lenL h1, od_eqI, c2, decide_false]
      exact z
  rw [if_neg k2]
  refine eq_test rfl h1' ?_
  by_cases k3 : w0 = s7
  · rw [if_pos k3]
    subst k3
    refine shelf_test (n := n + 2) (k := 5) (by decide) h1 hw ?_
    cases c : shelfOk 5 (s7 :: l) with
    | true =>
      rw [if_pos rfl]
      match l, c with
      | [w1, w2, w3, w4], c =>
        simp only [shelfOk, Bool.and_eq_true] at c
        simp only [List.map_cons, List.map_nil] at h1
        simp only [wpCs, wpC, wpT, wpE, wpEs, wpI, asg1, List.getElem?_cons_zero, List.getElem?_cons_succ, List.set_cons_zero, List.set_cons_succ, od_addI, od_addS, od_sub, od_mulI, od_div, od_mod, od_neg, od_not, od_eqI, od_neI, od_ltI, od_le, od_gt, od_ge, od_isN, od_notN, od_inS, od_ninS, od_tup, od_lst, od_dnT, od_lenS, od_lenT, od_lenQ, od_ixT, od_ixQ, od_min, od_int1, od_intB, od_listT, od_tupT, od_cutHQ, List.length_cons, List.length_nil, if_true, true_and, and_true, Bool.not_true, Bool.not_false, Bool.false_eq_true, if_false, ite_true, ite_false, decide_true, decide_false, reduceIte, Option.some.injEq, exists_eq_left', Int.reduceLT, Int.reduceLE, Int.reduceToNat, and_self, true_or, or_true, od_ixL h1, at_3]
        refine sp_lword (hw w3 (by simp)) ?_
        have hz : (wordsP [s7, w1, w2, w3, w4]).isSome = (nameA (.str w3) && numW w4) := by
          simp only [wordsP, if_true, c.2.1, c.2.2, Bool.true_and]
          cases nameA (.str w3) <;> cases numW w4 <;> rfl
        rw [hz] at z
        cases c3 : nameA (.str w3) with
        | false =>
          rw [c3] at z
          exact z
        | true =>
          rw [c3, Bool.true_and] at z
          simp only [od_ixL h1, at_4]
          refine ⟨_, rfl, ?_⟩
          refine sp_figures (hw w4 (by simp)) ?_
          rw [fig0]
          exact z
      | [], c => cases c
      | [_], c => cases c
      | [_, _], c => simp [shelfOk] at c
      | [_, _, _], c => simp [shelfOk] at c
      | _ :: _ :: _ :: _ :: _ :: _, c => simp [shelfOk] at c
    | false =>
      rw [if_neg Bool.false_ne_true]
      have : (wordsP (s7 :: l)).isSome = false := by
        match l, c with
        | [], _ => decide
        | [_], _ =>
          have a1 : ¬ (s7 = s8) := by decide
          simp [wordsP, a1]
        | [_, _], _ => rfl
        | [_, _, _], _ =>
          have a1 : ¬ (s7 = s6) := by decide
          have a2 : ¬ (s7 = s5) := by decide
          have a3 : ¬ (s7 = s4) := by decide
          simp [wordsP, shelfL, a1, a2, a3]
        | [w1, w2, w3, w4], c =>
          simp only [shelfOk, List.length_cons, List.length_nil] at c
          have c' : (nameA (.str w1) && nameA (.str w2)) = false := by simpa using c
          simp only [wordsP, if_true, c', Bool.false_and, Bool.false_eq_true, if_false]
          rfl
        | _ :: _ :: _ :: _ :: _ :: _, _ => rfl
      rw [this] at z
      exact z
  rw [if_neg k3]
  rw [wpCs, wpC]
  simp only [wpT, wpE, wpEs, List.getElem?_cons_zero, List.getElem?_cons_succ, od_ixL h1', at_0, od_lst]
  refine ⟨_, rfl, by decide, ?_⟩
  have hin : ∀ Q, opD TT .inn [.str w0, .ref S1.length] (S1 ++ [Ob.lst [.str s6, .str s5, .str s4]]) Q = Q (.bl (decide (w0 ∈ [s6, s5, s4]))) (S1 ++ [Ob.lst [.str s6, .str s5, .str s4]]) := fun Q =>
    od_inL (at_push _ _) (in_str w0 [s6, s5, s4])
  rw [hin]
  have h2 := Gr.push S1 [Ob.lst [.str s6, .str s5, .str s4]] _ _ h1
  have z2 := hq1 _ (Gr.push S1 [Ob.lst [.str s6, .str s5, .str s4]])
  generalize S1 ++ [Ob.lst [.str s6, .str s5, .str s4]] = S2 at h2 z2
  by_cases k4 : w0 ∈ [s6, s5, s4]
  · simp only [k4, decide_true, if_true]
    refine shelf_test (n := n + 2) (k := 4) (by decide) h2 hw ?_
    have kk : w0 = s6 ∨ w0 = s5 ∨ w0 = s4 := by simpa using k4
    cases c : shelfOk 4 (w0 :: l) with
    | true =>
      rw [if_pos rfl]
      match l, c with
      | [w1, w2, w3], c =>
        simp only [shelfOk, Bool.and_eq_true] at c
        simp only [List.map_cons, List.map_nil] at h2
        simp only [wpCs, wpC, wpT, wpE, wpEs, wpI, asg1, List.getElem?_cons_zero, List.getElem?_cons_succ, List.set_cons_zero, List.set_cons_succ, od_addI, od_addS, od_sub, od_mulI, od_div, od_mod, od_neg, od_not, od_eqI, od_neI, od_ltI, od_le, od_gt, od_ge, od_isN, od_notN, od_inS, od_ninS, od_tup, od_lst, od_dnT, od_lenS, od_lenT, od_lenQ, od_ixT, od_ixQ, od_min, od_int1, od_intB, od_listT, od_tupT, od_cutHQ, List.length_cons, List.length_nil, if_true, true_and, and_true, Bool.not_true, Bool.not_false, Bool.false_eq_true, if_false, ite_true, ite_false, decide_true, decide_false, reduceIte, Option.some.injEq, exists_eq_left', Int.reduceLT, Int.reduceLE, Int.reduceToNat, and_self, true_or, or_true, od_ixL h2, at_3, at_0, od_neS]
        have hz : (wordsP [w0, w1, w2, w3]).isSome = figB w3 (if (!decide (w0 = s4)) = true then 1 else 0) := by
          have b1 : ¬ (s5 = s6) := by decide
          have b2 : ¬ (s4 = s6) := by decide
          have b3 : ¬ (s4 = s5) := by decide
          have b4 : ¬ (s6 = s4) := by decide
          have b5 : ¬ (s5 = s4) := by decide
          rcases kk with rfl | rfl | rfl
          · simp only [b4, decide_false, Bool.not_false, if_true, fig1, wordsP, shelfL, c.2.1, c.2.2, Bool.and_self]
            by_cases d : numW w3 = true ∧ valW w3 ≠ 0
            · simp [d.1, d.2]
            · rw [if_neg d]
              cases e : numW w3 with
              | false => rfl
              | true =>
                have : valW w3 = 0 := by
                  by_cases f : valW w3 = 0
                  · exact f
                  · exact absurd ⟨e, f⟩ d
                simp [this]
          · simp only [b1, b5, decide_false, Bool.not_false, if_true, if_false, fig1, wordsP, shelfL, c.2.1, c.2.2, Bool.and_self]
            by_cases d : numW w3 = true ∧ valW w3 ≠ 0
            · simp [d.1, d.2]
            · rw [if_neg d]
              cases e : numW w3 with
              | false => rfl
              | true =>
                have : valW w3 = 0 := by
                  by_cases f : valW w3 = 0
                  · exact f
                  · exact absurd ⟨e, f⟩ d
                simp [this]
          · simp only [b2, b3, decide_true, Bool.not_true, Bool.false_eq_true, if_true, if_false, fig0, wordsP, shelfL, c.2.1, c.2.2, Bool.and_self]
            cases numW w3 <;> rfl
        rw [hz] at z2
        exact sp_figures (hw w3 (by simp)) z2
      | [], c => cases c
      | [_], c => cases c
      | [_, _], c => simp [shelfOk] at c
      | _ :: _ :: _ :: _ :: _, c => simp [shelfOk] at c
    | false =>
      rw [if_neg Bool.false_ne_true]
      have : (wordsP (w0 :: l)).isSome = false := by
        match l, c with
        | [], _ => rcases kk with rfl | rfl | rfl <;> decide
        | [_], _ => simp [wordsP, k2]
        | [_, _], _ => rfl
        | [w1, w2, w3], c =>
          simp only [shelfOk, List.length_cons, List.length_nil] at c
          have c' : (nameA (.str w1) && nameA (.str w2)) = false := by simpa using c
          simp only [wordsP, shelfL, c', Bool.false_eq_true, if_false]
          rfl
        | [_, _, _, _], _ => simp [wordsP, k3]
        | _ :: _ :: _ :: _ :: _ :: _, _ => rfl
      rw [this] at z2
      exact z2
  · simp only [k4, decide_false, Bool.false_eq_true, if_false]
    have kn : w0 ≠ s6 ∧ w0 ≠ s5 ∧ w0 ≠ s4 := by simpa using k4
    have hz : (wordsP (w0 :: l)).isSome = decide (t = s9) := by
      by_cases hb : t = s9
      · have := hbe.mp hb
        rw [this]
        simp only [hb, decide_true]
        rfl
      · have hb' : ¬ (w0 :: l = [s9]) := fun h => hb (hbe.mpr h)
        simp only [hb, decide_false]
        match l, hb' with
        | [], hb' =>
          have : ¬ w0 = s9 := fun h => hb' (by rw [h])
          simp [wordsP, this]
        | [_], _ => simp [wordsP, k2]
        | [_, _], _ => rfl
        | [_, _, _], _ => simp [wordsP, shelfL, kn.1, kn.2.1, kn.2.2]
        | [_, _, _, _], _ => simp [wordsP, k3]
        | _ :: _ :: _ :: _ :: _ :: _, _ => rfl
    rw [hz] at z2
    simp only [wpCs, wpC, wpT, wpE, wpEs, wpI, asg1, List.getElem?_cons_zero, List.getElem?_cons_succ, List.set_cons_zero, List.set_cons_succ, od_addI, od_addS, od_sub, od_mulI, od_div, od_mod, od_neg, od_not, od_eqI, od_neI, od_ltI, od_le, od_gt, od_ge, od_isN, od_notN, od_inS, od_ninS, od_tup, od_lst, od_dnT, od_lenS, od_lenT, od_lenQ, od_ixT, od_ixQ, od_min, od_int1, od_intB, od_listT, od_tupT, od_cutHQ, List.length_cons, List.length_nil, if_true, true_and, and_true, Bool.not_true, Bool.not_false, Bool.false_eq_true, if_false, ite_true, ite_false, decide_true, decide_false, reduceIte, Option.some.injEq, exists_eq_left', Int.reduceLT, Int.reduceLE, Int.reduceToNat, and_self, true_or, or_true, od_eqS]
    exact z2
/-- a thing that is no text -/
def NotText (S : Sto) (d : D) : Prop := ∃ k, tyD S d = some (.inl k) ∧ k.le .str = false
theorem sp_good_no (h : NotText S d) (hq : Q (.bl false) S) : wpCall TT FT (n + 1) 21 [d] S Q EX := by
  obtain ⟨k, hk, h2⟩ := h
  rw [call__law_good]
  refine ⟨rfl, ?_⟩
  unfold b__law_good
  simp only [wpCs, wpC, wpT, wpE, wpEs, wpI, asg1, List.getElem?_cons_zero, List.getElem?_cons_succ, List.set_cons_zero, List.set_cons_succ, od_isk hk, h2, od_not, Bool.not_false, if_true]
  exact hq
theorem sp_read_no (h : NotText S d) (hq : EX 9 S) : wpCall TT FT (n + 1) 10 [d] S Q EX := by
  obtain ⟨k, hk, h2⟩ := h
  rw [call_read]
  refine ⟨rfl, ?_⟩
  unfold b_read
  simp only [wpCs, wpC, wpT, wpE, wpEs, wpI, asg1, List.getElem?_cons_zero, List.getElem?_cons_succ, List.set_cons_zero, List.set_cons_succ, od_isk hk, h2, od_not, Bool.not_false, if_true]
  exact hq
/-! ### rows spoiled -/
theorem letters_lt : ∀ z ∈ s11, z < 128 := by decide
theorem name_lt {s : List Nat} (h : nameA (.str s) = true) : ∀ c ∈ s, c < 128 := fun c hc => letters_lt c ((name_facts h).2.2 c hc)
theorem num_lt {m : Int} : ∀ c ∈ TL.numL m.toNat, c < 128 := fun c hc => by
  have := TL.numL_digits _ c hc; omega
theorem join_lt {b : List Nat} (hb : ∀ c ∈ b, c < 128) : ∀ (ps : List (List Nat)), (∀ p ∈ ps, ∀ c ∈ p, c < 128) → ∀ c ∈ TL.joinL b ps, c < 128
  | [], _ => fun c hc => by simp [TL.joinL] at hc
  | [p], h => fun c hc => h p (by simp) c (by simpa [TL.joinL] using hc)
  | p :: q :: r, h => fun c hc => by
    rw [joinL_cons] at hc
    rcases List.mem_append.mp hc with hc | hc
    · exact h p (by simp) c hc
    · rcases List.mem_append.mp hc with hc | hc
      · exact hb c hc
      · exact join_lt hb (q :: r) (fun z hz => h z (by simp [hz])) c hc
theorem legT_lt {d : D} (h : LegD d) : ∀ c ∈ legT d, c < 128 := by
  obtain ⟨g, t, w, m, rfl, hg, ht, hgt, hw, m1, m2⟩ := h.ex
  show ∀ c ∈ TL.joinL [32] [g, t, w, TL.numL m.toNat], c < 128
  refine join_lt (by decide) _ fun p hp => ?_
  simp only [List.mem_cons, List.not_mem_nil, or_false] at hp
  rcases hp with rfl | rfl | rfl | rfl
  · exact name_lt hg
  · exact name_lt ht
  · exact name_lt hw
  · exact num_lt
/-- a row that was made: short, plain signs -/
theorem made_ok {kind : Int} {things : List D} {t : List Nat} (h : Made kind things t) : t.length ≤ 2000 ∧ ∀ c ∈ t, c < 128 := by
  cases h with
  | @lay a b m ha hb m1 m2 =>
    have := name_facts ha
    have := name_facts hb
    have := num_len (show 0 ≤ m by omega) m2
    refine ⟨by simp [TL.joinL, s6]; omega, join_lt (by decide) _ fun p hp => ?_⟩
    simp only [List.mem_cons, List.not_mem_nil, or_false] at hp
    rcases hp with rfl | rfl | rfl | rfl
    · decide
    · exact name_lt ha
    · exact name_lt hb
    · exact num_lt
  | @take a b m ha hb m1 m2 =>
    have := name_facts ha
    have := name_facts hb
    have := num_len (show 0 ≤ m by omega) m2
    refine ⟨by simp [TL.joinL, s5]; omega, join_lt (by decide) _ fun p hp => ?_⟩
    simp only [List.mem_cons, List.not_mem_nil, or_false] at hp
    rcases hp with rfl | rfl | rfl | rfl
    · decide
    · exact name_lt ha
    · exact name_lt hb
    · exact num_lt
  | @line a b m ha hb m1 m2 =>
    have := name_facts ha
    have := name_facts hb
    have := num_len m1 m2
    refine ⟨by simp [TL.joinL, s4]; omega, join_lt (by decide) _ fun p hp => ?_⟩
    simp only [List.mem_cons, List.not_mem_nil, or_false] at hp
    rcases hp with rfl | rfl | rfl | rfl
    · decide
    · exact name_lt ha
    · exact name_lt hb
    · exact num_lt
  | @deal a ds ha hds d1 d2 =>
    have fa := name_facts ha
    have j1 := legs_len hds
    have j2 := joinL_len [44, 32] (ds.map legT)
    simp only [List.length_map, List.length_cons, List.length_nil] at j2
    have l5 : s10.length = 5 := rfl
    refine ⟨by simp only [List.length_append, List.length_cons, List.length_nil, l5]; omega, ?_⟩
    intro c hc
    rcases List.mem_append.mp hc with hc | hc
    · exact (show ∀ c ∈ s10, c < 128 by decide) c hc
    · rcases List.mem_append.mp hc with hc | hc
      · exact name_lt ha c hc
      · rcases List.mem_append.mp hc with hc | hc
        · rw [List.mem_singleton.mp hc]; decide
        · refine join_lt (by decide) _ (fun p hp => ?_) c hc
          obtain ⟨d, hd, rfl⟩ := List.mem_map.mp hp
          exact legT_lt (hds d hd)
  | @off a ha =>
    have := name_facts ha
    refine ⟨by simp [TL.joinL, s8]; omega, join_lt (by decide) _ fun p hp => ?_⟩
    simp only [List.mem_cons, List.not_mem_nil, or_false] at hp
    rcases hp with rfl | rfl
    · decide
    · exact name_lt ha
  | @put a b c m ha hb hc m1 m2 =>
    have := name_facts ha
    have := name_facts hb
    have := name_facts hc
    have := num_len m1 m2
    refine ⟨by simp [TL.joinL, s7]; omega, join_lt (by decide) _ fun p hp => ?_⟩
    simp only [List.mem_cons, List.not_mem_nil, or_false] at hp
    rcases hp with rfl | rfl | rfl | rfl | rfl
    · decide
    · exact name_lt ha
    · exact name_lt hb
    · exact name_lt hc
    · exact num_lt
  | bell => exact ⟨by decide, by decide⟩
theorem op_upper : opF TT .upper = oUpper := rfl
theorem od_upper (h1 : ∀ c ∈ a, c < 128) (h2 : a.length ≤ 5592405) : opD TT .upper [.str a] S Q = Q (.str (a.map upC)) S := od_some (z := (.str (a.map upC), S)) (by
  rw [op_upper]
  have : (a.all fun x => decide (x < 128)) = true := List.all_eq_true.mpr fun c hc => decide_eq_true (h1 c hc)
  simp only [oUpper, this, h2]
  simp)
theorem sp_signs {t : List Nat} {p way : Int} {c : Nat} (hl : t.length ≤ 2000) (hc : ∀ c ∈ t, c < 128) (hp : 0 ≤ p) (hq : ∀ t', t'.length ≤ 5000 → Q (.str t') S) : wpCall TT FT (n + 1) 22 [.str t, .int p, .str [c], .int way] S Q EX := by
  rw [call__law_signs]
  refine ⟨rfl, ?_⟩
  unfold b__law_signs
  have tL : t.length ≤ LIM := by show _ ≤ 16777216; omega
  have l1 : (t.take p.toNat).length ≤ 2000 := by simp; omega
  have l2 : (t.drop p.toNat).length ≤ 2000 := by simp; omega
  have l3 : (t.drop (p + 1).toNat).length ≤ 2000 := by simp; omega
  have tu : ∀ S a, tyOk .upper S (.str a) = true := fun _ _ => rfl
  have hu := fun S Q => od_upper (S := S) (Q := Q) (a := t.drop p.toNat) (fun c h => hc c (List.mem_of_mem_drop h)) (by omega)
  have l4 : ((t.drop p.toNat).map upC).length ≤ 2000 := by rw [List.length_map]; exact l2
  have p1 : 0 ≤ p + 1 := by omega
  simp only [wpCs, wpC, wpT, wpE, wpEs, wpI, asg1, List.getElem?_cons_zero, List.getElem?_cons_succ, List.set_cons_zero, List.set_cons_succ, od_addI, od_addS, od_sub, od_mulI, od_div, od_mod, od_neg, od_not, od_eqI, od_neI, od_ltI, od_le, od_gt, od_ge, od_isN, od_notN, od_inS, od_ninS, od_tup, od_lst, od_dnT, od_lenS, od_lenT, od_lenQ, od_ixT, od_ixQ, od_min, od_int1, od_intB, od_listT, od_tupT, od_cutHQ, List.length_cons, List.length_nil, if_true, true_and, and_true, Bool.not_true, Bool.not_false, Bool.false_eq_true, if_false, ite_true, ite_false, decide_true, decide_false, reduceIte, Option.some.injEq, exists_eq_left', Int.reduceLT, Int.reduceLE, Int.reduceToNat, and_self, true_or, or_true, od_cutHS tL, od_cutLS tL, od_addS, tu, hu, hp, p1]
  generalize t.take p.toNat = x1 at l1
  generalize (t.drop p.toNat).map upC = x4 at l4
  generalize t.drop p.toNat = x2 at l2
  generalize t.drop (p + 1).toNat = x3 at l3
  have lim : ∀ k, k ≤ 5000 → k ≤ LIM := fun k h => by show _ ≤ 16777216; omega
  by_cases w0 : way = 0
  · simp only [w0, decide_true, if_true]
    refine ⟨lim _ (by (try simp only [List.length_append, List.length_cons, List.length_nil]); omega), lim _ (by (try simp only [List.length_append, List.length_cons, List.length_nil]); omega), hq _ (by (try simp only [List.length_append, List.length_cons, List.length_nil]); omega)⟩
  · by_cases w1 : way = 1
    · simp only [w1, w0, decide_true, decide_false, if_true, Bool.false_eq_true, if_false, Int.reduceEq]
      refine ⟨lim _ (by (try simp only [List.length_append, List.length_cons, List.length_nil]); omega), hq _ (by (try simp only [List.length_append, List.length_cons, List.length_nil]); omega)⟩
    · by_cases w2 : way = 2
      · simp only [w2, w1, w0, decide_true, decide_false, if_true, Bool.false_eq_true, if_false, Int.reduceEq]
        refine ⟨lim _ (by (try simp only [List.length_append, List.length_cons, List.length_nil]); omega), lim _ (by (try simp only [List.length_append, List.length_cons, List.length_nil]); omega), hq _ (by (try simp only [List.length_append, List.length_cons, List.length_nil]); omega)⟩
      · simp only [w2, w1, w0, decide_false, Bool.false_eq_true, if_false]
        refine ⟨lim _ (by (try simp only [List.length_append, List.length_cons, List.length_nil]); omega), hq _ (by (try simp only [List.length_append, List.length_cons, List.length_nil]); omega)⟩
/-! #### words -/
def mass : List (List Nat) → Nat
  | [] => 0
  | p :: r => p.length + 1 + mass r
theorem mass_eq : ∀ us : List (List Nat), mass us = (us.map (·.length)).sum + us.length
  | [] => rfl
  | p :: r => by
    simp only [mass, mass_eq r, List.map_cons, List.sum_cons, List.length_cons]; omega
theorem mass_app : ∀ us vs : List (List Nat), mass (us ++ vs) = mass us + mass vs
  | [], vs => by simp [mass]
  | p :: r, vs => by simp only [List.cons_append, mass, mass_app r vs]; omega
theorem mass_take (us : List (List Nat)) (k : Nat) : mass (us.take k) + mass (us.drop k) = mass us := by
  rw [← mass_app, List.take_append_drop]
theorem mass_drop1 : ∀ (us : List (List Nat)) (k : Nat), mass (us.drop (k + 1)) ≤ mass (us.drop k)
  | [], k => by simp
  | p :: r, 0 => by simp only [List.drop_succ_cons, List.drop_zero, mass]; omega
  | p :: r, k + 1 => by
    simp only [List.drop_succ_cons]
    exact mass_drop1 r k
theorem mass_set : ∀ (us : List (List Nat)) (k : Nat) (v : List Nat), mass (us.set k v) ≤ mass us + v.length
  | [], k, v => by simp [mass]
  | p :: r, 0, v => by simp only [List.set_cons_zero, mass]; omega
  | p :: r, k + 1, v => by
    have := mass_set r k v
    simp only [List.set_cons_succ, mass]; omega
theorem mass_mem : ∀ {us : List (List Nat)} {p : List Nat}, p ∈ us → p.length ≤ mass us
  | q :: r, p, h => by
    rcases List.mem_cons.mp h with rfl | h
    · simp only [mass]; omega
    · have := mass_mem h
      simp only [mass]; omega
theorem mass_wds (t : List Nat) : mass (wds t) = t.length + 1 := by
  have hne : wds t ≠ [] := spl_ne _ _ _ _
  rw [mass_eq, ← len_join hne, join_wds]
theorem od_addL {r q : Nat} {xs ys : List D} (h1 : S[r]? = some (.lst xs)) (h2 : S[q]? = some (.lst ys)) : opD TT .add [.ref r, .ref q] S Q = (xs.length + ys.length ≤ LIM ∧ Q (.ref S.length) (S ++ [.lst (xs ++ ys)])) := od_ite (z := (.ref S.length, S ++ [.lst (xs ++ ys)])) (by
  show oAdd [.ref r, .ref q] S = _
  simp only [oAdd, h1, h2])
theorem join_fin {us : List (List Nat)} {r : Nat} (hr : S[r]? = some (.lst (us.map .str))) (hm : mass us ≤ 9000) (hq : ∀ t', t'.length ≤ 9000 → Q (.str t') S) :
    tyOk .join S (.str s2) = true ∧ opD TT .join [.str s2, .ref r] S Q := by
  have j := joinL_len s2 us
  have l1 : s2.length = 1 := rfl
  rw [mass_eq] at hm
  rw [l1] at j
  rw [od_joinL hr, l1]
  exact ⟨rfl, by show _ ≤ 16777216; omega, hq _ (by omega)⟩
theorem before {ws : List (List Nat)} {k : Nat} (hk : k < ws.length) : ∃ w, w ∈ ws ∧ L2.atI (ws.map D.str) ((k : Int) - 1) = some (.str w) := by
  cases k with
  | zero =>
    have hne : ws ≠ [] := fun z => by rw [z] at hk; simp at hk
    obtain ⟨l, w, rfl⟩ : ∃ l w, ws = l ++ [w] := ⟨_, _, (List.dropLast_concat_getLast hne).symm⟩
    refine ⟨w, by simp, ?_⟩
    rw [List.map_append]
    exact atI_last
  | succ k =>
    refine ⟨ws[k], List.getElem_mem _, ?_⟩
    have e : ((k + 1 : Nat) : Int) - 1 = (k : Int) := by omega
    rw [e]
    refine atI_k ?_
    rw [List.getElem?_map, List.getElem?_eq_getElem (by omega)]; rfl
/-- what is exchanged for a word like a number -/
theorem sp_words {t : List Nat} {p rest way : Int} (hl : t.length ≤ 2000) (hp : 0 ≤ p) (hr0 : 0 ≤ rest) (w4 : 4 ≤ way) (w8 : way < 8) (hq : ∀ t' S', Gr S S' → t'.length ≤ 9000 → Q (.str t') S') : wpCall TT FT (n + 1) 23 [.str t, .int p, .int rest, .int way] S Q EX := by
  rw [call__law_words]
  refine ⟨rfl, ?_⟩
  show wpCs TT (wpCall TT FT n) none (catC 2 b__law_words (dropC 2 b__law_words)) [some (.str t), some (.int p), some (.int rest), some (.int way), none, none, none] S (Kc Q) EX
  generalize hT : dropC 2 b__law_words = T
  have hl' : t.length + 2 ≤ LIM := by show t.length + 2 ≤ 16777216; omega
  have tks : ∀ S, tyOk .split S (.str t) = true := fun _ => rfl
  have e : TL.spl s2 0 [] t = wds t := rfl
  have hne : wds t ≠ [] := spl_ne _ _ _ _
  have hm := mass_wds t
  have h1 := at_push S (.lst ((wds t).map .str))
  have hpos : 0 < (wds t).length := List.length_pos_iff.mpr hne
  simp only [b__law_words, catC]
  simp only [wpCs, wpC, wpT, wpE, wpEs, wpI, asg1, List.getElem?_cons_zero, List.getElem?_cons_succ, List.set_cons_zero, List.set_cons_succ, od_addI, od_addS, od_sub, od_mulI, od_div, od_mod, od_neg, od_not, od_eqI, od_neI, od_ltI, od_le, od_gt, od_ge, od_isN, od_notN, od_inS, od_ninS, od_tup, od_lst, od_dnT, od_lenS, od_lenT, od_lenQ, od_ixT, od_ixQ, od_min, od_int1, od_intB, od_listT, od_tupT, od_cutHQ, List.length_cons, List.length_nil, if_true, true_and, and_true, Bool.not_true, Bool.not_false, Bool.false_eq_true, if_false, ite_true, ite_false, decide_true, decide_false, reduceIte, Option.some.injEq, exists_eq_left', Int.reduceLT, Int.reduceLE, Int.reduceToNat, and_self, true_or, or_true, tks, od_split b32 hl', e, od_lenL h1, List.length_map]
  refine ⟨by omega, ?_⟩
  subst hT
  have g1 := Gr.push S [.lst ((wds t).map .str)]
  generalize S ++ [Ob.lst ((wds t).map .str)] = S1 at h1 g1
  generalize hrS : S.length = r at h1
  have k0 : 0 ≤ p % ((wds t).length : Int) := Int.emod_nonneg _ (by omega)
  have k1 : p % ((wds t).length : Int) < ((wds t).length : Int) := Int.emod_lt_of_pos _ (by omega)
  generalize hk : p % ((wds t).length : Int) = k at k0 k1
  obtain ⟨k, rfl⟩ : ∃ j : Nat, k = (j : Int) := ⟨k.toNat, by omega⟩
  generalize wds t = ws at h1 hm hne hpos k1
  have hk1 : k < ws.length := by omega
  have hwk : (ws.map D.str)[k]? = some (.str ws[k]) := by
    rw [List.getElem?_map, List.getElem?_eq_getElem hk1]; rfl
  have hway : way = 4 ∨ way = 5 ∨ way = 6 ∨ way = 7 := by omega
  simp only [b__law_words, dropC]
  rcases hway with rfl | rfl | rfl | rfl
  · simp only [wpCs, wpC, wpT, wpE, wpEs, wpI, asg1, List.getElem?_cons_zero, List.getElem?_cons_succ, List.set_cons_zero, List.set_cons_succ, od_addI, od_addS, od_sub, od_mulI, od_div, od_mod, od_neg, od_not, od_eqI, od_neI, od_ltI, od_le, od_gt, od_ge, od_isN, od_notN, od_inS, od_ninS, od_tup, od_lst, od_dnT, od_lenS, od_lenT, od_lenQ, od_ixT, od_ixQ, od_min, od_int1, od_intB, od_listT, od_tupT, od_cutHQ, List.length_cons, List.length_nil, if_true, true_and, and_true, Bool.not_true, Bool.not_false, Bool.false_eq_true, if_false, ite_true, ite_false, decide_true, decide_false, reduceIte, Option.some.injEq, exists_eq_left', Int.reduceLT, Int.reduceLE, Int.reduceToNat, and_self, true_or, or_true, Int.reduceEq, od_cutHL h1]
    refine ⟨by omega, ?_⟩
    rw [od_cutLL (Gr.push _ _ _ _ h1)]
    refine ⟨by omega, ?_⟩
    rw [od_addL (Gr.push _ _ _ _ (at_push _ _)) (at_push _ _)]
    refine ⟨by simp; show _ ≤ 16777216; rw [mass_eq] at hm; omega, ?_⟩
    have eX : List.take ((k : Nat) : Int).toNat (ws.map D.str) ++ List.drop (((k : Nat) : Int) + 1).toNat (ws.map D.str) = (ws.take k ++ ws.drop (k + 1)).map D.str := by
      rw [Int.toNat_natCast, show (((k : Nat) : Int) + 1).toNat = k + 1 by omega, List.map_append, List.map_take, List.map_drop]
    rw [eX]
    refine join_fin (at_push _ _) ?_ fun t' ht => hq t' _ (g1.trans (((Gr.push _ _).trans (Gr.push _ _)).trans (Gr.push _ _))) ht
    have := mass_take ws k
    have := mass_drop1 ws k
    rw [mass_app]
    omega
  · simp only [wpCs, wpC, wpT, wpE, wpEs, wpI, asg1, List.getElem?_cons_zero, List.getElem?_cons_succ, List.set_cons_zero, List.set_cons_succ, od_addI, od_addS, od_sub, od_mulI, od_div, od_mod, od_neg, od_not, od_eqI, od_neI, od_ltI, od_le, od_gt, od_ge, od_isN, od_notN, od_inS, od_ninS, od_tup, od_lst, od_dnT, od_lenS, od_lenT, od_lenQ, od_ixT, od_ixQ, od_min, od_int1, od_intB, od_listT, od_tupT, od_cutHQ, List.length_cons, List.length_nil, if_true, true_and, and_true, Bool.not_true, Bool.not_false, Bool.false_eq_true, if_false, ite_true, ite_false, decide_true, decide_false, reduceIte, Option.some.injEq, exists_eq_left', Int.reduceLT, Int.reduceLE, Int.reduceToNat, and_self, true_or, or_true, Int.reduceEq, od_cutHL h1]
    refine ⟨by omega, ?_⟩
    rw [od_ixL (Gr.push _ _ _ _ h1)]
    refine ⟨_, atI_k hwk, by decide, ?_⟩
    rw [od_addL (Gr.push _ _ _ _ (at_push _ _)) (at_push _ _)]
    refine ⟨by simp; show _ ≤ 16777216; rw [mass_eq] at hm; omega, ?_⟩
    rw [od_cutLL (Gr.push _ _ _ _ (Gr.push _ _ _ _ (Gr.push _ _ _ _ h1)))]
    refine ⟨by omega, ?_⟩
    rw [od_addL (Gr.push _ _ _ _ (at_push _ _)) (at_push _ _)]
    refine ⟨by simp; show _ ≤ 16777216; rw [mass_eq] at hm; omega, ?_⟩
    have eX : (List.take ((k : Nat) : Int).toNat (ws.map D.str) ++ [.str ws[k]]) ++ List.drop ((k : Nat) : Int).toNat (ws.map D.str) = ((ws.take k ++ [ws[k]]) ++ ws.drop k).map D.str := by
      rw [Int.toNat_natCast, List.map_append, List.map_append, List.map_take, List.map_drop]; rfl
    rw [eX]
    refine join_fin (at_push _ _) ?_ fun t' ht => hq t' _ (g1.trans (((((Gr.push _ _).trans (Gr.push _ _)).trans (Gr.push _ _)).trans (Gr.push _ _)).trans (Gr.push _ _))) ht
    have := mass_take ws k
    have := mass_mem (List.getElem_mem hk1)
    rw [mass_app, mass_app]
    simp only [mass]
    omega
  · simp only [wpCs, wpC, wpT, wpE, wpEs, wpI, asg1, List.getElem?_cons_zero, List.getElem?_cons_succ, List.set_cons_zero, List.set_cons_succ, od_addI, od_addS, od_sub, od_mulI, od_div, od_mod, od_neg, od_not, od_eqI, od_neI, od_ltI, od_le, od_gt, od_ge, od_isN, od_notN, od_inS, od_ninS, od_tup, od_lst, od_dnT, od_lenS, od_lenT, od_lenQ, od_ixT, od_ixQ, od_min, od_int1, od_intB, od_listT, od_tupT, od_cutHQ, List.length_cons, List.length_nil, if_true, true_and, and_true, Bool.not_true, Bool.not_false, Bool.false_eq_true, if_false, ite_true, ite_false, decide_true, decide_false, reduceIte, Option.some.injEq, exists_eq_left', Int.reduceLT, Int.reduceLE, Int.reduceToNat, and_self, true_or, or_true, Int.reduceEq, od_ixL h1]
    obtain ⟨w, hw, ew⟩ := before hk1
    refine ⟨_, ew, ?_⟩
    rw [setW_lst h1 (by omega) (by rw [List.length_map]; omega)]
    have eX : (ws.map D.str).set ((k : Nat) : Int).toNat (.str w) = (ws.set k w).map D.str := by
      rw [Int.toNat_natCast, List.map_set]
    rw [eX]
    refine join_fin (at_set h1) ?_ fun t' ht => hq t' _ (g1.set (by omega)) ht
    have := mass_set ws k w
    have := mass_mem hw
    omega
  · have e60 : ((60 : Int).natAbs < 2 ^ 62 ∧ s0.length * (60 : Int).toNat ≤ LIM) := by decide
    have e60b : ((60 : Int).natAbs < 2 ^ 62 ∧ s30.length * (60 : Int).toNat ≤ LIM) := by decide
    have e61 : ((61 : Int).natAbs < 2 ^ 62 ∧ s30.length * (61 : Int).toNat ≤ LIM) := by decide
    simp only [wpCs, wpC, wpT, wpE, wpEs, wpI, asg1, List.getElem?_cons_zero, List.getElem?_cons_succ, List.set_cons_zero, List.set_cons_succ, od_addI, od_addS, od_sub, od_mulI, od_div, od_mod, od_neg, od_not, od_eqI, od_neI, od_ltI, od_le, od_gt, od_ge, od_isN, od_notN, od_inS, od_ninS, od_tup, od_lst, od_dnT, od_lenS, od_lenT, od_lenQ, od_ixT, od_ixQ, od_min, od_int1, od_intB, od_listT, od_tupT, od_cutHQ, List.length_cons, List.length_nil, if_true, true_and, and_true, Bool.not_true, Bool.not_false, Bool.false_eq_true, if_false, ite_true, ite_false, decide_true, decide_false, reduceIte, Option.some.injEq, exists_eq_left', Int.reduceLT, Int.reduceLE, Int.reduceToNat, and_self, true_or, or_true, Int.reduceEq, od_mulS, e60, e60b, e61, true_and, od_addS]
    refine ⟨by decide, by decide, by decide, by decide, by decide, by decide, ?_⟩
    generalize hx : s31 ++ (List.replicate 60 s0).flatten = x1
    generalize hx2 : (List.replicate 60 s30).flatten = x2
    generalize hx3 : (List.replicate 61 s30).flatten = x3
    have b1 : x1.length ≤ 62 := by rw [← hx]; decide
    have b2 : x2.length ≤ 62 := by rw [← hx2]; decide
    have b3 : x3.length ≤ 62 := by rw [← hx3]; decide
    rw [od_addL (Gr.push _ _ _ _ (at_push _ _)) (at_push _ _)]
    refine ⟨by show 10 + 4 ≤ 16777216; omega, ?_⟩
    rw [od_ixL (at_push _ _)]
    have z0 : 0 ≤ rest % 14 := Int.emod_nonneg _ (by decide)
    have z1 : rest % 14 < 14 := Int.emod_lt_of_pos _ (by decide)
    have hz : ∃ w, L2.atI ([D.str s0, .str s37, .str s36, .str s35, .str s34, .str s33, .str s1, .str s32, .str x1, .str x2] ++ [D.str x3, .str s29, .str s28, .str s27]) (rest % 14) = some (.str w) ∧ w.length ≤ 62 := by
      have : rest % 14 = 0 ∨ rest % 14 = 1 ∨ rest % 14 = 2 ∨ rest % 14 = 3 ∨ rest % 14 = 4 ∨ rest % 14 = 5 ∨ rest % 14 = 6 ∨ rest % 14 = 7 ∨ rest % 14 = 8 ∨ rest % 14 = 9 ∨ rest % 14 = 10 ∨ rest % 14 = 11 ∨ rest % 14 = 12 ∨ rest % 14 = 13 := by omega
      rcases this with e | e | e | e | e | e | e | e | e | e | e | e | e | e <;> rw [e] <;> first
        | exact ⟨_, rfl, by decide⟩
        | exact ⟨_, rfl, b1⟩
        | exact ⟨_, rfl, b2⟩
        | exact ⟨_, rfl, b3⟩
    obtain ⟨w, ew, wl⟩ := hz
    refine ⟨_, ew, ?_⟩
    have h5 := Gr.push _ [Ob.lst ([D.str s0, .str s37, .str s36, .str s35, .str s34, .str s33, .str s1, .str s32, .str x1, .str x2] ++ [D.str x3, .str s29, .str s28, .str s27])] _ _ (Gr.push _ [Ob.lst [D.str x3, .str s29, .str s28, .str s27]] _ _ (Gr.push S1 [Ob.lst [D.str s0, .str s37, .str s36, .str s35, .str s34, .str s33, .str s1, .str s32, .str x1, .str x2]] _ _ h1))
    have g5 : Gr S _ := g1.trans (((Gr.push S1 [Ob.lst [D.str s0, .str s37, .str s36, .str s35, .str s34, .str s33, .str s1, .str s32, .str x1, .str x2]]).trans (Gr.push _ [Ob.lst [D.str x3, .str s29, .str s28, .str s27]])).trans (Gr.push _ [Ob.lst ([D.str s0, .str s37, .str s36, .str s35, .str s34, .str s33, .str s1, .str s32, .str x1, .str x2] ++ [D.str x3, .str s29, .str s28, .str s27])]))
    generalize (S1 ++ [Ob.lst [D.str s0, .str s37, .str s36, .str s35, .str s34, .str s33, .str s1, .str s32, .str x1, .str x2]] ++ [Ob.lst [D.str x3, .str s29, .str s28, .str s27]] ++ [Ob.lst ([D.str s0, .str s37, .str s36, .str s35, .str s34, .str s33, .str s1, .str s32, .str x1, .str x2] ++ [D.str x3, .str s29, .str s28, .str s27])]) = S5 at h5 g5
    simp only [od_lenL h5, od_sub, List.length_map]
    have i0 : 0 ≤ (ws.length : Int) - 1 - (k : Int) / 2 := by omega
    have i1 : (ws.length : Int) - 1 - (k : Int) / 2 < (ws.length : Int) := by omega
    generalize (ws.length : Int) - 1 - (k : Int) / 2 = i at i0 i1
    rw [setW_lst h5 i0 (by rw [List.length_map]; omega)]
    have eX : (ws.map D.str).set i.toNat (.str w) = (ws.set i.toNat w).map D.str := by rw [List.map_set]
    rw [eX]
    refine join_fin (at_set h5) ?_ fun t' ht => hq t' _ (g5.set (by omega)) ht
    have := mass_set ws i.toNat w
    omega
/-! #### spoiled -/
theorem NotText.gr {S S' : Sto} {d : D} (h : NotText S d) (g : Gr S S') : NotText S' d := by
  obtain ⟨k, hk, h2⟩ := h
  refine ⟨k, ?_, h2⟩
  cases d with
  | ref r =>
    simp only [tyD] at hk ⊢
    cases e : S[r]? with
    | none => rw [e] at hk; cases hk
    | some o =>
      rw [e] at hk
      rw [g _ _ e]
      exact hk
  | _ => exact hk
/-- a row: a text, or a thing that is none -/
def RowD (S : Sto) (d : D) : Prop := (∃ t, d = .str t ∧ t.length ≤ 10000) ∨ NotText S d
theorem RowD.gr {S S' : Sto} {d : D} (h : RowD S d) (g : Gr S S') : RowD S' d := by
  rcases h with h | h
  · exact .inl h
  · exact .inr (h.gr g)
theorem sp_spoiled {t : List Nat} {cell : Int} (hl : t.length ≤ 2000) (hc : ∀ c ∈ t, c < 128) (hq : ∀ d S', Gr S S' → RowD S' d → Q d S') : wpCall TT FT (n + 2) 24 [.str t, .int cell] S Q EX := by
  rw [call__law_spoiled]
  refine ⟨rfl, ?_⟩
  show wpCs TT (wpCall TT FT (n + 1)) none (catC 6 b__law_spoiled (dropC 6 b__law_spoiled)) [some (.str t), some (.int cell), none, none, none, none, none, none] S (Kc Q) EX
  generalize hT : dropC 6 b__law_spoiled = T
  have tL : t.length ≤ LIM := by show _ ≤ 16777216; omega
  have c0 : 0 ≤ cell % 2147483629 := Int.emod_nonneg _ (by decide)
  have c1 : cell % 2147483629 < 2147483629 := Int.emod_lt_of_pos _ (by decide)
  simp only [b__law_spoiled, catC]
  simp only [wpCs, wpC, wpT, wpE, wpEs, wpI, asg1, List.getElem?_cons_zero, List.getElem?_cons_succ, List.set_cons_zero, List.set_cons_succ, od_addI, od_addS, od_sub, od_mulI, od_div, od_mod, od_neg, od_not, od_eqI, od_neI, od_ltI, od_le, od_gt, od_ge, od_isN, od_notN, od_inS, od_ninS, od_tup, od_lst, od_dnT, od_lenS, od_lenT, od_lenQ, od_ixT, od_ixQ, od_min, od_int1, od_intB, od_listT, od_tupT, od_cutHQ, List.length_cons, List.length_nil, if_true, true_and, and_true, Bool.not_true, Bool.not_false, Bool.false_eq_true, if_false, ite_true, ite_false, decide_true, decide_false, reduceIte, Option.some.injEq, exists_eq_left', Int.reduceLT, Int.reduceLE, Int.reduceToNat, and_self, true_or, or_true, tL]
  refine ⟨by decide, .inr (by decide), by omega, ?_⟩
  subst hT
  have n0 : 0 ≤ (cell % 2147483629 * 69621 + 5) % 2147483629 := Int.emod_nonneg _ (by decide)
  generalize (cell % 2147483629 * 69621 + 5) % 2147483629 = num at n0
  have w0 : 0 ≤ num % 10 := Int.emod_nonneg _ (by decide)
  have w1 : num % 10 < 10 := Int.emod_lt_of_pos _ (by decide)
  have p0 : 0 ≤ num / 10 % ((t.length : Int) + 1) := Int.emod_nonneg _ (by omega)
  have r0 : 0 ≤ num / 7919 := by omega
  generalize num % 10 = way at w0 w1
  generalize num / 10 % ((t.length : Int) + 1) = pl at p0
  generalize num / 7919 = rest at r0
  have sg1 : 0 < (s44 ++ s43).length := by decide
  have sg2 : (s44 ++ s43).length ≤ LIM := by decide
  generalize s44 ++ s43 = sg at sg1 sg2
  simp only [b__law_spoiled, dropC]
  by_cases k4 : way < 4
  · simp only [wpCs, wpC, wpT, wpE, wpEs, wpI, asg1, List.getElem?_cons_zero, List.getElem?_cons_succ, List.set_cons_zero, List.set_cons_succ, od_addI, od_addS, od_sub, od_mulI, od_div, od_mod, od_neg, od_not, od_eqI, od_neI, od_ltI, od_le, od_gt, od_ge, od_isN, od_notN, od_inS, od_ninS, od_tup, od_lst, od_dnT, od_lenS, od_lenT, od_lenQ, od_ixT, od_ixQ, od_min, od_int1, od_intB, od_listT, od_tupT, od_cutHQ, List.length_cons, List.length_nil, if_true, true_and, and_true, Bool.not_true, Bool.not_false, Bool.false_eq_true, if_false, ite_true, ite_false, decide_true, decide_false, reduceIte, Option.some.injEq, exists_eq_left', Int.reduceLT, Int.reduceLE, Int.reduceToNat, and_self, true_or, or_true, k4, sg2, od_ixS sg2]
    refine ⟨by omega, ?_⟩
    have i0 : 0 ≤ rest % (sg.length : Int) := Int.emod_nonneg _ (by omega)
    have i1 : rest % (sg.length : Int) < (sg.length : Int) := Int.emod_lt_of_pos _ (by omega)
    refine ⟨_, atI_nn i0 i1, ?_⟩
    exact sp_signs hl hc p0 fun t' h => hq _ _ (Gr.refl _) (.inl ⟨t', rfl, by omega⟩)
  · by_cases k8 : way < 8
    · simp only [wpCs, wpC, wpT, wpE, wpEs, wpI, asg1, List.getElem?_cons_zero, List.getElem?_cons_succ, List.set_cons_zero, List.set_cons_succ, od_addI, od_addS, od_sub, od_mulI, od_div, od_mod, od_neg, od_not, od_eqI, od_neI, od_ltI, od_le, od_gt, od_ge, od_isN, od_notN, od_inS, od_ninS, od_tup, od_lst, od_dnT, od_lenS, od_lenT, od_lenQ, od_ixT, od_ixQ, od_min, od_int1, od_intB, od_listT, od_tupT, od_cutHQ, List.length_cons, List.length_nil, if_true, true_and, and_true, Bool.not_true, Bool.not_false, Bool.false_eq_true, if_false, ite_true, ite_false, decide_true, decide_false, reduceIte, Option.some.injEq, exists_eq_left', Int.reduceLT, Int.reduceLE, Int.reduceToNat, and_self, true_or, or_true, k4, k8]
      exact sp_words hl p0 r0 (by omega) k8 fun t' S' g h => hq _ _ g (.inl ⟨t', rfl, by omega⟩)
    · by_cases k9 : way = 8
      · have m0 : 0 ≤ rest % 8 := Int.emod_nonneg _ (by decide)
        have m1 : rest % 8 < 8 := Int.emod_lt_of_pos _ (by decide)
        have l9 : s42.length = 9 := rfl
        have hlen : (List.replicate (1 + rest % 8).toNat s42).flatten.length ≤ 72 := by
          rw [List.length_flatten, List.map_replicate, List.sum_replicate_nat, l9]
          have : (1 + rest % 8).toNat ≤ 8 := by omega
          omega
        simp only [wpCs, wpC, wpT, wpE, wpEs, wpI, asg1, List.getElem?_cons_zero, List.getElem?_cons_succ, List.set_cons_zero, List.set_cons_succ, od_addI, od_addS, od_sub, od_mulI, od_div, od_mod, od_neg, od_not, od_eqI, od_neI, od_ltI, od_le, od_gt, od_ge, od_isN, od_notN, od_inS, od_ninS, od_tup, od_lst, od_dnT, od_lenS, od_lenT, od_lenQ, od_ixT, od_ixQ, od_min, od_int1, od_intB, od_listT, od_tupT, od_cutHQ, List.length_cons, List.length_nil, if_true, true_and, and_true, Bool.not_true, Bool.not_false, Bool.false_eq_true, if_false, ite_true, ite_false, decide_true, decide_false, reduceIte, Option.some.injEq, exists_eq_left', Int.reduceLT, Int.reduceLE, Int.reduceToNat, and_self, true_or, or_true, k4, k8, k9, Int.reduceLT, od_mulS, od_addS, l9]
        refine ⟨⟨by omega, by show _ ≤ 16777216; omega⟩, by show _ ≤ 16777216; omega, ?_⟩
        exact hq _ _ (Gr.refl _) (.inl ⟨_, rfl, by rw [List.length_append]; omega⟩)
      · simp only [wpCs, wpC, wpT, wpE, wpEs, wpI, asg1, List.getElem?_cons_zero, List.getElem?_cons_succ, List.set_cons_zero, List.set_cons_succ, od_addI, od_addS, od_sub, od_mulI, od_div, od_mod, od_neg, od_not, od_eqI, od_neI, od_ltI, od_le, od_gt, od_ge, od_isN, od_notN, od_inS, od_ninS, od_tup, od_lst, od_dnT, od_lenS, od_lenT, od_lenQ, od_ixT, od_ixQ, od_min, od_int1, od_intB, od_listT, od_tupT, od_cutHQ, List.length_cons, List.length_nil, if_true, true_and, and_true, Bool.not_true, Bool.not_false, Bool.false_eq_true, if_false, ite_true, ite_false, decide_true, decide_false, reduceIte, Option.some.injEq, exists_eq_left', Int.reduceLT, Int.reduceLE, Int.reduceToNat, and_self, true_or, or_true, k4, k8, k9]
        refine ⟨by decide, by decide, by decide, by decide, ?_⟩
        have a2 := at_push (S ++ [Ob.lst [.str t]]) (.dic true false [])
        have a1 := Gr.push (S ++ [Ob.lst [.str t]]) [.dic true false []] _ _ (at_push S (.lst [.str t]))
        have g2 : Gr S (S ++ [Ob.lst [.str t]] ++ [.dic true false []]) := (Gr.push _ _).trans (Gr.push _ _)
        generalize (S ++ [Ob.lst [.str t]]).length = rb at a2 ⊢
        generalize S ++ [Ob.lst [.str t]] ++ [Ob.dic true false []] = S2 at a1 a2 g2 ⊢
        generalize S.length = ra at a1 ⊢
        rw [od_addL (Gr.push _ _ _ _ (at_push _ _)) (at_push _ _)]
        refine ⟨by show 11 + 4 ≤ 16777216; omega, ?_⟩
        rw [od_ixL (at_push _ _)]
        have n1 : NotText S2 (.ref ra) := ⟨.lst, by simp [tyD, a1], rfl⟩
        have n2 : NotText S2 (.ref rb) := ⟨.dct, by simp [tyD, a2], rfl⟩
        have z0 : 0 ≤ rest % 15 := Int.emod_nonneg _ (by decide)
        have z1 : rest % 15 < 15 := Int.emod_lt_of_pos _ (by decide)
        have hz : ∃ d, L2.atI ([D.non, .int 5, .bl true, .ref ra, .tup [.str t], .ref rb, .str s1, .str s2, .str s41, .str s40, .str s39] ++ [D.str s18, .str s38, .str s8, .str s7]) (rest % 15) = some d ∧ RowD S2 d := by
          have : rest % 15 = 0 ∨ rest % 15 = 1 ∨ rest % 15 = 2 ∨ rest % 15 = 3 ∨ rest % 15 = 4 ∨ rest % 15 = 5 ∨ rest % 15 = 6 ∨ rest % 15 = 7 ∨ rest % 15 = 8 ∨ rest % 15 = 9 ∨ rest % 15 = 10 ∨ rest % 15 = 11 ∨ rest % 15 = 12 ∨ rest % 15 = 13 ∨ rest % 15 = 14 := by omega
          rcases this with e | e | e | e | e | e | e | e | e | e | e | e | e | e | e <;> rw [e] <;> first
            | exact ⟨_, rfl, .inl ⟨_, rfl, by decide⟩⟩
            | exact ⟨_, rfl, .inr ⟨.non, rfl, rfl⟩⟩
            | exact ⟨_, rfl, .inr ⟨.int, rfl, rfl⟩⟩
            | exact ⟨_, rfl, .inr ⟨.bl, rfl, rfl⟩⟩
            | exact ⟨_, rfl, .inr ⟨.tup, rfl, rfl⟩⟩
            | exact ⟨_, rfl, .inr n1⟩
            | exact ⟨_, rfl, .inr n2⟩
        obtain ⟨d, ed, hd⟩ := hz
        have g6 := ((Gr.push S2 [Ob.lst [D.non, .int 5, .bl true, .ref ra, .tup [.str t], .ref rb, .str s1, .str s2, .str s41, .str s40, .str s39]]).trans (Gr.push _ [Ob.lst [D.str s18, .str s38, .str s8, .str s7]])).trans (Gr.push _ [Ob.lst ([D.non, .int 5, .bl true, .ref ra, .tup [.str t], .ref rb, .str s1, .str s2, .str s41, .str s40, .str s39] ++ [D.str s18, .str s38, .str s8, .str s7])])
        exact ⟨d, ed, hq d _ (g2.trans g6) (hd.gr g6)⟩
/-! ### told, and the law -/
abbrev KN : List Bool := [true, true, false, false]
theorem sp_told {d : D} (hd : RowD S d) (h1 : ∀ t c fs, d = .str t → readP t = some (c, fs) → ∀ S' r, Gr S S' → S'[r]? = some (.ins c fs) → Q (.tup [.ref r, .non]) S')
    (h2 : (∀ t, d = .str t → readP t = none) → ∀ S' r, Gr S S' → S'[r]? = some (.lst (KN.map .bl)) → Q (.tup [.non, .ref r]) S') : wpCall TT FT (n + 7) 25 [d] S Q EX := by
  rw [call__law_told]
  refine ⟨rfl, ?_⟩
  unfold b__law_told
  have s1 : TT.sub 9 0 = true := by decide
  have e1 : clsE TT (some 9) [Cl.own 9] = some true := by decide
  have e2 : clsE TT (some 9) [Cl.valErr] = some true := by decide
  have e3 : clsE TT (some 9) [Cl.own 1, Cl.own 2, Cl.own 3, Cl.own 4] = some false := by decide
  have e4 : clsE TT (some 9) [Cl.own 5, Cl.own 6, Cl.own 7, Cl.own 8, Cl.own 10] = some false := by decide
  simp only [wpCs, wpC, wpE, wpEs, List.getElem?_cons_zero, List.getElem?_cons_succ, List.set_cons_zero, List.set_cons_succ]
  rcases hd with ⟨t, rfl, hl⟩ | hn
  · refine sp_read_any (n := n) (by show _ ≤ 1000000; omega) ?_
    cases hr : readP t with
    | some p =>
      obtain ⟨c, fs⟩ := p
      intro S' g r h _
      simp only [od_tup]
      exact ⟨by show 2 ≤ 16777216; omega, h1 t c fs rfl hr S' r g h⟩
    | none =>
      intro S' g
      simp only [s1, if_true, e1, e2, e3, e4, od_lst, od_tup, hdK, List.set_cons_zero, List.set_cons_succ, List.getElem?_cons_zero, List.getElem?_cons_succ]
      refine ⟨by decide, by show 2 ≤ 16777216; omega, h2 (fun t' e => by cases e; exact hr) _ _ (g.trans (Gr.push _ _)) (at_push _ _)⟩
  · refine sp_read_no (n := n + 5) hn ?_
    have hno : ∀ t, d = .str t → readP t = none := fun t e => by
      obtain ⟨k, hk, h3⟩ := hn
      subst e
      cases hk
      cases h3
    simp only [s1, if_true, e1, e2, e3, e4, od_lst, od_tup, hdK, List.set_cons_zero, List.set_cons_succ, List.getElem?_cons_zero, List.getElem?_cons_succ]
    exact ⟨by decide, by show 2 ≤ 16777216; omega, h2 hno _ _ (Gr.push _ _) (at_push _ _)⟩
theorem row_run {c : Nat} {fs : List (Nat × D)} {t : List Nat} {r : Nat} (h : readP t = some (c, fs)) (hr : S[r]? = some (.ins c fs)) (hq : ∀ S', Gr S S' → Q (.str t) S') : ∃ f, TT.met c 0 = some f ∧ lookF fs 0 = none ∧ wpCall TT FT (n + 1) f [.ref r] S Q EX := by
  obtain ⟨kind, things, hm, e⟩ := read_made h
  have e1 : c = (deedOf kind things).1 := congrArg (·.1) e
  have e2 : fs = (deedOf kind things).2 := congrArg (·.2) e
  subst e1
  subst e2
  exact sp_row hm hr hq
theorem law_clean (ns : List Int) (h : ns.length ≤ 63) : wpCall TT FT 9 26 [.lis (ns.map .int)] [] (fun d _ => d = .bl true) fun _ _ => False := by
  rw [show (9 : Nat) = 8 + 1 from rfl, call_law]
  refine ⟨rfl, ?_⟩
  unfold b_law
  have em : (if 63 < (ns.length : Int) then (63 : Int) else (ns.length : Int)) = (ns.length : Int) := if_neg (by omega)
  rw [wpCs, wpC]
  simp only [wpI, wpE, wpEs, List.getElem?_cons_zero, od_lenQ, od_min, List.length_map, em]
  refine ⟨by omega, ?_⟩
  refine foN_ix (P := fun j ρ S' => ∃ y1 y2 y3 y4 y5 y6, ρ = [some (.lis (ns.map .int)), y1, y2, y3, y4, y5, y6]) (fun _ _ _ _ => trivial) ?_ ?_ _ _ ⟨_, _, _, _, _, _, rfl⟩
  · rintro j x ρ S K' hx ⟨y1, y2, y3, y4, y5, y6, rfl⟩ hnx hrt
    obtain ⟨hj, rfl⟩ := rng_get hx
    refine ⟨_, rfl, ?_⟩
    rw [wpCs, wpC]
    simp only [wpI, wpE, wpEs]
    refine ⟨by decide, by decide, ?_⟩
    refine compN_alg (fun d => ∃ v, d = .int v) (Nat.le_refl S.length) (fun _ _ => trivial) _ _ _ (fun x hx S2 kk g2 hk => ?_) (Gr.push _ _) (at_push _ _) (fun d hd => nomatch hd) (by decide) fun S2 ds g2 h2 hds hlen => ?_
    · obtain ⟨q, hq', rfl⟩ := mem_rng hx
      simp only [wpCs, wpC, wpT, wpE, wpEs, wpI, asg1, List.getElem?_cons_zero, List.getElem?_cons_succ, List.set_cons_zero, List.set_cons_succ, od_addI, od_addS, od_sub, od_mulI, od_div, od_mod, od_neg, od_not, od_eqI, od_neI, od_ltI, od_le, od_gt, od_ge, od_isN, od_notN, od_inS, od_ninS, od_tup, od_lst, od_dnT, od_lenS, od_lenT, od_lenQ, od_ixT, od_ixQ, od_min, od_int1, od_intB, od_listT, od_tupT, od_cutHQ, List.length_cons, List.length_nil, if_true, true_and, and_true, Bool.not_true, Bool.not_false, Bool.false_eq_true, if_false, ite_true, ite_false, decide_true, decide_false, reduceIte, Option.some.injEq, exists_eq_left', Int.reduceLT, Int.reduceLE, Int.reduceToNat, and_self, true_or, or_true]
      refine sp_cell_at (n := 7) (by omega) h fun v => ?_
      simp only [p62]
      rw [od_mod]
      exact ⟨by decide, hk _ _ (Gr.refl _) ⟨_, rfl⟩⟩
    · have hl4 : ds.length = 4 := by rw [hlen]; rfl
      match ds, hl4, hds with
      | [d0, d1, d2, d3], _, hds =>
        obtain ⟨c0, rfl⟩ := hds d0 (by simp)
        obtain ⟨c1, rfl⟩ := hds d1 (by simp)
        obtain ⟨c2, rfl⟩ := hds d2 (by simp)
        obtain ⟨c3, rfl⟩ := hds d3 (by simp)
        simp only [List.set_cons_zero, List.set_cons_succ]
        rw [wpCs, wpC]
        simp only [wpE, wpEs, List.getElem?_cons_zero, List.getElem?_cons_succ, od_ixL h2, at_0, at_1, at_2, Option.some.injEq, exists_eq_left']
        refine sp_made (n := 5) fun kind things text S3 g3 hm => ?_
        have ok := made_ok hm
        have h3 := g3 _ _ h2
        simp only [od_ixT, at_2, Option.some.injEq, exists_eq_left', od_ixL h3, at_3]
        refine sp_spoiled (n := 6) ok.1 ok.2 fun row S4 g4 hrow => ?_
        simp only [List.set_cons_zero, List.set_cons_succ]
        rw [wpCs, wpC]
        simp only [wpE, wpEs, List.getElem?_cons_zero, List.getElem?_cons_succ]
        refine sp_told (n := 1) hrow (fun t c fs ht hr S5 r g5 h5 => ?_) (fun hno S5 r g5 h5 => ?_)
        · subst ht
          have hl : t.length ≤ 400000 := by
            rcases hrow with ⟨t', e, hl⟩ | ⟨k, hk, hk2⟩
            · cases e; omega
            · cases hk; cases hk2
          simp only [asgT, asgs, List.set_cons_zero, List.set_cons_succ]
          rw [wpCs, wpC]
          simp only [wpT, wpE, wpEs, List.getElem?_cons_zero, List.getElem?_cons_succ]
          refine sp_good (n := 4) hl fun S6 g6 => ?_
          rw [hr]
          have h6 := g6 _ _ h5
          obtain ⟨f, m1, m2, _⟩ := row_run (n := 7) (Q := fun _ _ => True) (EX := fun _ _ => True) hr h6 fun _ _ => trivial
          have run : ∀ (Q : PQ) (EX : PX), (∀ S', Gr S6 S' → Q (.str t) S') → wpCall TT FT (7 + 1) f [.ref r] S6 Q EX := fun Q EX hq => by
            obtain ⟨f', k1, k2, k3⟩ := row_run (n := 7) (EX := EX) hr h6 hq
            rw [m1] at k1; cases k1
            exact k3
          simp only [wpCs, wpC, wpT, wpE, wpEs, wpI, asg1, List.getElem?_cons_zero, List.getElem?_cons_succ, List.set_cons_zero, List.set_cons_succ, od_addI, od_addS, od_sub, od_mulI, od_div, od_mod, od_neg, od_not, od_eqI, od_neI, od_ltI, od_le, od_gt, od_ge, od_isN, od_notN, od_inS, od_ninS, od_tup, od_lst, od_dnT, od_lenS, od_lenT, od_lenQ, od_ixT, od_ixQ, od_min, od_int1, od_intB, od_listT, od_tupT, od_cutHQ, List.length_cons, List.length_nil, if_true, true_and, and_true, Bool.not_true, Bool.not_false, Bool.false_eq_true, if_false, ite_true, ite_false, decide_true, decide_false, reduceIte, Option.some.injEq, exists_eq_left', Int.reduceLT, Int.reduceLE, Int.reduceToNat, and_self, true_or, or_true, Option.isSome_some, h6, m1, m2]
          refine run _ _ fun S7 g7 => ?_
          simp only [wpCs, wpC, wpT, wpE, wpEs, wpI, asg1, List.getElem?_cons_zero, List.getElem?_cons_succ, List.set_cons_zero, List.set_cons_succ, od_addI, od_addS, od_sub, od_mulI, od_div, od_mod, od_neg, od_not, od_eqI, od_neI, od_ltI, od_le, od_gt, od_ge, od_isN, od_notN, od_inS, od_ninS, od_tup, od_lst, od_dnT, od_lenS, od_lenT, od_lenQ, od_ixT, od_ixQ, od_min, od_int1, od_intB, od_listT, od_tupT, od_cutHQ, List.length_cons, List.length_nil, if_true, true_and, and_true, Bool.not_true, Bool.not_false, Bool.false_eq_true, if_false, ite_true, ite_false, decide_true, decide_false, reduceIte, Option.some.injEq, exists_eq_left', Int.reduceLT, Int.reduceLE, Int.reduceToNat, and_self, true_or, or_true, od_neS]
          exact hnx _ _ ⟨_, _, _, _, _, _, rfl⟩
        · simp only [asgT, asgs, List.set_cons_zero, List.set_cons_succ]
          rw [wpCs, wpC]
          simp only [wpT, wpE, wpEs, List.getElem?_cons_zero, List.getElem?_cons_succ]
          have good : ∀ (Q : PQ) (EX : PX), (∀ S', Gr S5 S' → Q (.bl false) S') → wpCall TT FT 8 21 [row] S5 Q EX := fun Q EX hq => by
            rcases hrow with ⟨t, rfl, hl⟩ | hn
            · refine sp_good (n := 4) (by omega) fun S6 g6 => ?_
              rw [hno t rfl]
              exact hq S6 g6
            · exact sp_good_no (n := 7) (hn.gr g5) (hq _ (Gr.refl _))
          refine good _ _ fun S6 g6 => ?_
          have h6 := g6 _ _ h5
          simp only [wpCs, wpC, wpT, wpE, wpEs, wpI, asg1, List.getElem?_cons_zero, List.getElem?_cons_succ, List.set_cons_zero, List.set_cons_succ, od_addI, od_addS, od_sub, od_mulI, od_div, od_mod, od_neg, od_not, od_eqI, od_neI, od_ltI, od_le, od_gt, od_ge, od_isN, od_notN, od_inS, od_ninS, od_tup, od_lst, od_dnT, od_lenS, od_lenT, od_lenQ, od_ixT, od_ixQ, od_min, od_int1, od_intB, od_listT, od_tupT, od_cutHQ, List.length_cons, List.length_nil, if_true, true_and, and_true, Bool.not_true, Bool.not_false, Bool.false_eq_true, if_false, ite_true, ite_false, decide_true, decide_false, reduceIte, Option.some.injEq, exists_eq_left', Int.reduceLT, Int.reduceLE, Int.reduceToNat, and_self, true_or, or_true]
          refine ⟨by decide, ?_⟩
          rw [od_ne]
          refine ⟨true, eqD_bls (bs := KN) (Gr.push _ _ _ _ h6) (at_push _ _), ?_⟩
          simp only [wpCs, wpC, wpT, wpE, wpEs, wpI, asg1, List.getElem?_cons_zero, List.getElem?_cons_succ, List.set_cons_zero, List.set_cons_succ, od_addI, od_addS, od_sub, od_mulI, od_div, od_mod, od_neg, od_not, od_eqI, od_neI, od_ltI, od_le, od_gt, od_ge, od_isN, od_notN, od_inS, od_ninS, od_tup, od_lst, od_dnT, od_lenS, od_lenT, od_lenQ, od_ixT, od_ixQ, od_min, od_int1, od_intB, od_listT, od_tupT, od_cutHQ, List.length_cons, List.length_nil, if_true, true_and, and_true, Bool.not_true, Bool.not_false, Bool.false_eq_true, if_false, ite_true, ite_false, decide_true, decide_false, reduceIte, Option.some.injEq, exists_eq_left', Int.reduceLT, Int.reduceLE, Int.reduceToNat, and_self, true_or, or_true]
          exact hnx _ _ ⟨_, _, _, _, _, _, rfl⟩
  · rintro ρ S ⟨y1, y2, y3, y4, y5, y6, rfl⟩
    simp only [wpCs, wpC, wpT, wpE, wpEs, wpI, asg1, List.getElem?_cons_zero, List.getElem?_cons_succ, List.set_cons_zero, List.set_cons_succ, od_addI, od_addS, od_sub, od_mulI, od_div, od_mod, od_neg, od_not, od_eqI, od_neI, od_ltI, od_le, od_gt, od_ge, od_isN, od_notN, od_inS, od_ninS, od_tup, od_lst, od_dnT, od_lenS, od_lenT, od_lenQ, od_ixT, od_ixQ, od_min, od_int1, od_intB, od_listT, od_tupT, od_cutHQ, List.length_cons, List.length_nil, if_true, true_and, and_true, Bool.not_true, Bool.not_false, Bool.false_eq_true, if_false, ite_true, ite_false, decide_true, decide_false, reduceIte, Option.some.injEq, exists_eq_left', Int.reduceLT, Int.reduceLE, Int.reduceToNat, and_self, true_or, or_true]
end Lk62
namespace Lk62
open PySem PySem.Spec PyProof.Rows L2 Mp
abbrev PP : Program := PySem.Challenge.pw_dealknot_k62_rows_refused
def top (i : Nat) : Stmt := PP.main.body.getD i (.Pass ⟨0, 0, 0, 0⟩)
def mth (i j : Nat) : Stmt := match top i with | .ClassDef _ _ _ b _ _ _ _ _ _ _ => b.getD j (.Pass ⟨0, 0, 0, 0⟩) | s => s
structure CAd where
  c_HallError : Addr
  c_NoName : Addr
  c_NoAmount : Addr
  c_NoLeg : Addr
  c_NotWaiting : Addr
  c_Twice : Addr
  c_TooLittle : Addr
  c_NotNow : Addr
  c_NotForetold : Addr
  c_NoRow : Addr
  c_NoBack : Addr
  c_Lay : Addr
  c_Take : Addr
  c_Line : Addr
  c_Offer : Addr
  c_Off : Addr
  c_Put : Addr
  c_Bell : Addr
def flds : List Str := ["row", "shelf", "amount", "line", "deal", "name", "place"]
theorem nmi0 : ∀ f g, nmOf flds f = nmOf flds g → f = g := nm_inj flds (by decide +kernel) (by decide +kernel)
def GG (B : CAd) : Mp.Gl := ⟨⟨fun k => match k with | 13 => some B.c_Lay | 14 => some B.c_Take | 15 => some B.c_Line | 16 => some B.c_Offer | 17 => some B.c_Off | 18 => some B.c_Put | 19 => some B.c_Bell | _ => none, fun k => match k with | 1 => some B.c_NoName | 3 => some B.c_NoLeg | 9 => some B.c_NoRow | _ => none, nmOf flds⟩, TT, FT, fun _ => none⟩
theorem nmi {B : CAd} : ∀ f g, (GG B).N.nm f = (GG B).N.nm g → f = g := nmi0
theorem s0_e : ("0" : Str).cps.toList = s0 := by decide +kernel
theorem s0_b : s0.all (· < 0x110000) = true := by decide +kernel
theorem s1_e : ("" : Str).cps.toList = s1 := by decide +kernel
theorem s1_b : s1.all (· < 0x110000) = true := by decide +kernel
theorem s2_e : (" " : Str).cps.toList = s2 := by decide +kernel
theorem s2_b : s2.all (· < 0x110000) = true := by decide +kernel
theorem s3_e : (", " : Str).cps.toList = s3 := by decide +kernel
theorem s3_b : s3.all (· < 0x110000) = true := by decide +kernel
theorem s4_e : ("line" : Str).cps.toList = s4 := by decide +kernel
theorem s4_b : s4.all (· < 0x110000) = true := by decide +kernel
theorem s5_e : ("take" : Str).cps.toList = s5 := by decide +kernel
theorem s5_b : s5.all (· < 0x110000) = true := by decide +kernel
theorem s6_e : ("lay" : Str).cps.toList = s6 := by decide +kernel
theorem s6_b : s6.all (· < 0x110000) = true := by decide +kernel
theorem s7_e : ("put" : Str).cps.toList = s7 := by decide +kernel
theorem s7_b : s7.all (· < 0x110000) = true := by decide +kernel
theorem s8_e : ("off" : Str).cps.toList = s8 := by decide +kernel
theorem s8_b : s8.all (· < 0x110000) = true := by decide +kernel
theorem s9_e : ("bell" : Str).cps.toList = s9 := by decide +kernel
theorem s9_b : s9.all (· < 0x110000) = true := by decide +kernel
theorem s10_e : ("deal " : Str).cps.toList = s10 := by decide +kernel
theorem s10_b : s10.all (· < 0x110000) = true := by decide +kernel
theorem s11_e : ("abcdefghijklmnopqrstuvwxyz" : Str).cps.toList = s11 := by decide +kernel
theorem s11_b : s11.all (· < 0x110000) = true := by decide +kernel
theorem s12_e : ("row" : Str).cps.toList = s12 := by decide +kernel
theorem s12_b : s12.all (· < 0x110000) = true := by decide +kernel
theorem s13_e : ("behind" : Str).cps.toList = s13 := by decide +kernel
theorem s13_b : s13.all (· < 0x110000) = true := by decide +kernel
theorem s14_e : ("short" : Str).cps.toList = s14 := by decide +kernel
theorem s14_b : s14.all (· < 0x110000) = true := by decide +kernel
theorem s15_e : ("none" : Str).cps.toList = s15 := by decide +kernel
theorem s15_b : s15.all (· < 0x110000) = true := by decide +kernel
theorem s16_e : ("most" : Str).cps.toList = s16 := by decide +kernel
theorem s16_b : s16.all (· < 0x110000) = true := by decide +kernel
theorem s17_e : ("back" : Str).cps.toList = s17 := by decide +kernel
theorem s17_b : s17.all (· < 0x110000) = true := by decide +kernel
theorem s18_e : ("deal" : Str).cps.toList = s18 := by decide +kernel
theorem s18_b : s18.all (· < 0x110000) = true := by decide +kernel
theorem s19_e : ("a" : Str).cps.toList = s19 := by decide +kernel
theorem s19_b : s19.all (· < 0x110000) = true := by decide +kernel
theorem s20_e : ("b" : Str).cps.toList = s20 := by decide +kernel
theorem s20_b : s20.all (· < 0x110000) = true := by decide +kernel
theorem s21_e : ("put " : Str).cps.toList = s21 := by decide +kernel
theorem s21_b : s21.all (· < 0x110000) = true := by decide +kernel
theorem s22_e : ("off " : Str).cps.toList = s22 := by decide +kernel
theorem s22_b : s22.all (· < 0x110000) = true := by decide +kernel
theorem s23_e : ("line " : Str).cps.toList = s23 := by decide +kernel
theorem s23_b : s23.all (· < 0x110000) = true := by decide +kernel
theorem s24_e : ("take " : Str).cps.toList = s24 := by decide +kernel
theorem s24_b : s24.all (· < 0x110000) = true := by decide +kernel
theorem s25_e : ("lay " : Str).cps.toList = s25 := by decide +kernel
theorem s25_b : s25.all (· < 0x110000) = true := by decide +kernel
theorem s26_e : ("0123456789" : Str).cps.toList = s26 := by decide +kernel
theorem s26_b : s26.all (· < 0x110000) = true := by decide +kernel
theorem s27_e : ("x1" : Str).cps.toList = s27 := by decide +kernel
theorem s27_b : s27.all (· < 0x110000) = true := by decide +kernel
theorem s28_e : ("1\n" : Str).cps.toList = s28 := by decide +kernel
theorem s28_b : s28.all (· < 0x110000) = true := by decide +kernel
theorem s29_e : ("\t1" : Str).cps.toList = s29 := by decide +kernel
theorem s29_b : s29.all (· < 0x110000) = true := by decide +kernel
theorem s30_e : ("9" : Str).cps.toList = s30 := by decide +kernel
theorem s30_b : s30.all (· < 0x110000) = true := by decide +kernel
theorem s31_e : ("1" : Str).cps.toList = s31 := by decide +kernel
theorem s31_b : s31.all (· < 0x110000) = true := by decide +kernel
theorem s32_e : ("1.0" : Str).cps.toList = s32 := by decide +kernel
theorem s32_b : s32.all (· < 0x110000) = true := by decide +kernel
theorem s33_e : ("1_0" : Str).cps.toList = s33 := by decide +kernel
theorem s33_b : s33.all (· < 0x110000) = true := by decide +kernel
theorem s34_e : ("-1" : Str).cps.toList = s34 := by decide +kernel
theorem s34_b : s34.all (· < 0x110000) = true := by decide +kernel
theorem s35_e : ("+1" : Str).cps.toList = s35 := by decide +kernel
theorem s35_b : s35.all (· < 0x110000) = true := by decide +kernel
theorem s36_e : ("07" : Str).cps.toList = s36 := by decide +kernel
theorem s36_b : s36.all (· < 0x110000) = true := by decide +kernel
theorem s37_e : ("00" : Str).cps.toList = s37 := by decide +kernel
theorem s37_b : s37.all (· < 0x110000) = true := by decide +kernel
theorem s38_e : ("deal a" : Str).cps.toList = s38 := by decide +kernel
theorem s38_b : s38.all (· < 0x110000) = true := by decide +kernel
theorem s39_e : ("bell\n" : Str).cps.toList = s39 := by decide +kernel
theorem s39_b : s39.all (· < 0x110000) = true := by decide +kernel
theorem s40_e : ("Bell" : Str).cps.toList = s40 := by decide +kernel
theorem s40_b : s40.all (· < 0x110000) = true := by decide +kernel
theorem s41_e : ("bells" : Str).cps.toList = s41 := by decide +kernel
theorem s41_b : s41.all (· < 0x110000) = true := by decide +kernel
theorem s42_e : (", x y z 1" : Str).cps.toList = s42 := by decide +kernel
theorem s42_b : s42.all (· < 0x110000) = true := by decide +kernel
theorem s43_e : ("abcdefghijklmnopqrstuvwxyz{|}~\n\t" : Str).cps.toList = s43 := by decide +kernel
theorem s43_b : s43.all (· < 0x110000) = true := by decide +kernel
theorem s44_e : (" !\"#$&'()*+,-./0123456789:;<=>?@ABCDEFGHIJKLMNOPQRSTUVWXYZ[\\]^_`" : Str).cps.toList = s44 := by decide +kernel
theorem s44_b : s44.all (· < 0x110000) = true := by decide +kernel
theorem nd_Bell : (("Bell" : Str) == ("__debug__" : Str)) = false := by decide +kernel
theorem nd_FIGURES : (("FIGURES" : Str) == ("__debug__" : Str)) = false := by decide +kernel
theorem nd_HallError : (("HallError" : Str) == ("__debug__" : Str)) = false := by decide +kernel
theorem nd_LETTERS : (("LETTERS" : Str) == ("__debug__" : Str)) = false := by decide +kernel
theorem nd_Lay : (("Lay" : Str) == ("__debug__" : Str)) = false := by decide +kernel
theorem nd_Line : (("Line" : Str) == ("__debug__" : Str)) = false := by decide +kernel
theorem nd_NoAmount : (("NoAmount" : Str) == ("__debug__" : Str)) = false := by decide +kernel
theorem nd_NoBack : (("NoBack" : Str) == ("__debug__" : Str)) = false := by decide +kernel
theorem nd_NoLeg : (("NoLeg" : Str) == ("__debug__" : Str)) = false := by decide +kernel
theorem nd_NoName : (("NoName" : Str) == ("__debug__" : Str)) = false := by decide +kernel
theorem nd_NoRow : (("NoRow" : Str) == ("__debug__" : Str)) = false := by decide +kernel
theorem nd_NotForetold : (("NotForetold" : Str) == ("__debug__" : Str)) = false := by decide +kernel
theorem nd_NotNow : (("NotNow" : Str) == ("__debug__" : Str)) = false := by decide +kernel
theorem nd_NotWaiting : (("NotWaiting" : Str) == ("__debug__" : Str)) = false := by decide +kernel
theorem nd_Off : (("Off" : Str) == ("__debug__" : Str)) = false := by decide +kernel
theorem nd_Offer : (("Offer" : Str) == ("__debug__" : Str)) = false := by decide +kernel
theorem nd_Put : (("Put" : Str) == ("__debug__" : Str)) = false := by decide +kernel
theorem nd_Take : (("Take" : Str) == ("__debug__" : Str)) = false := by decide +kernel
theorem nd_TooLittle : (("TooLittle" : Str) == ("__debug__" : Str)) = false := by decide +kernel
theorem nd_Twice : (("Twice" : Str) == ("__debug__" : Str)) = false := by decide +kernel
theorem nd_amount : (("amount" : Str) == ("__debug__" : Str)) = false := by decide +kernel
theorem nc_amount : (("amount" : Str) == ("__classdict__" : Str)) = false := by decide +kernel
theorem nd_bottom : (("bottom" : Str) == ("__debug__" : Str)) = false := by decide +kernel
theorem nc_bottom : (("bottom" : Str) == ("__classdict__" : Str)) = false := by decide +kernel
theorem nd_cell : (("cell" : Str) == ("__debug__" : Str)) = false := by decide +kernel
theorem nc_cell : (("cell" : Str) == ("__classdict__" : Str)) = false := by decide +kernel
theorem nd_cells : (("cells" : Str) == ("__debug__" : Str)) = false := by decide +kernel
theorem nc_cells : (("cells" : Str) == ("__classdict__" : Str)) = false := by decide +kernel
theorem nd_deal : (("deal" : Str) == ("__debug__" : Str)) = false := by decide +kernel
theorem nc_deal : (("deal" : Str) == ("__classdict__" : Str)) = false := by decide +kernel
theorem nd_e : (("e" : Str) == ("__debug__" : Str)) = false := by decide +kernel
theorem nc_e : (("e" : Str) == ("__classdict__" : Str)) = false := by decide +kernel
theorem nd_found : (("found" : Str) == ("__debug__" : Str)) = false := by decide +kernel
theorem nc_found : (("found" : Str) == ("__classdict__" : Str)) = false := by decide +kernel
theorem nd_front : (("front" : Str) == ("__debug__" : Str)) = false := by decide +kernel
theorem nc_front : (("front" : Str) == ("__classdict__" : Str)) = false := by decide +kernel
theorem nd_giver : (("giver" : Str) == ("__debug__" : Str)) = false := by decide +kernel
theorem nc_giver : (("giver" : Str) == ("__classdict__" : Str)) = false := by decide +kernel
theorem nd_head : (("head" : Str) == ("__debug__" : Str)) = false := by decide +kernel
theorem nc_head : (("head" : Str) == ("__classdict__" : Str)) = false := by decide +kernel
theorem nd_j : (("j" : Str) == ("__debug__" : Str)) = false := by decide +kernel
theorem nc_j : (("j" : Str) == ("__classdict__" : Str)) = false := by decide +kernel
theorem nd_k : (("k" : Str) == ("__debug__" : Str)) = false := by decide +kernel
theorem nc_k : (("k" : Str) == ("__classdict__" : Str)) = false := by decide +kernel
theorem nd_kind : (("kind" : Str) == ("__debug__" : Str)) = false := by decide +kernel
theorem nc_kind : (("kind" : Str) == ("__classdict__" : Str)) = false := by decide +kernel
theorem nd_kinds : (("kinds" : Str) == ("__debug__" : Str)) = false := by decide +kernel
theorem nc_kinds : (("kinds" : Str) == ("__classdict__" : Str)) = false := by decide +kernel
theorem nd_leg : (("leg" : Str) == ("__debug__" : Str)) = false := by decide +kernel
theorem nc_leg : (("leg" : Str) == ("__classdict__" : Str)) = false := by decide +kernel
theorem nd_legs : (("legs" : Str) == ("__debug__" : Str)) = false := by decide +kernel
theorem nc_legs : (("legs" : Str) == ("__classdict__" : Str)) = false := by decide +kernel
theorem nd_line : (("line" : Str) == ("__debug__" : Str)) = false := by decide +kernel
theorem nc_line : (("line" : Str) == ("__classdict__" : Str)) = false := by decide +kernel
theorem nd_name : (("name" : Str) == ("__debug__" : Str)) = false := by decide +kernel
theorem nc_name : (("name" : Str) == ("__classdict__" : Str)) = false := by decide +kernel
theorem nd_number : (("number" : Str) == ("__debug__" : Str)) = false := by decide +kernel
theorem nc_number : (("number" : Str) == ("__classdict__" : Str)) = false := by decide +kernel
theorem nd_one : (("one" : Str) == ("__debug__" : Str)) = false := by decide +kernel
theorem nc_one : (("one" : Str) == ("__classdict__" : Str)) = false := by decide +kernel
theorem nd_part : (("part" : Str) == ("__debug__" : Str)) = false := by decide +kernel
theorem nc_part : (("part" : Str) == ("__classdict__" : Str)) = false := by decide +kernel
theorem nd_parts : (("parts" : Str) == ("__debug__" : Str)) = false := by decide +kernel
theorem nc_parts : (("parts" : Str) == ("__classdict__" : Str)) = false := by decide +kernel
theorem nd_place : (("place" : Str) == ("__debug__" : Str)) = false := by decide +kernel
theorem nc_place : (("place" : Str) == ("__classdict__" : Str)) = false := by decide +kernel
theorem nd_rest : (("rest" : Str) == ("__debug__" : Str)) = false := by decide +kernel
theorem nc_rest : (("rest" : Str) == ("__classdict__" : Str)) = false := by decide +kernel
theorem nd_row : (("row" : Str) == ("__debug__" : Str)) = false := by decide +kernel
theorem nc_row : (("row" : Str) == ("__classdict__" : Str)) = false := by decide +kernel
theorem nd_script : (("script" : Str) == ("__debug__" : Str)) = false := by decide +kernel
theorem nc_script : (("script" : Str) == ("__classdict__" : Str)) = false := by decide +kernel
theorem nd_self : (("self" : Str) == ("__debug__" : Str)) = false := by decide +kernel
theorem nc_self : (("self" : Str) == ("__classdict__" : Str)) = false := by decide +kernel
theorem nd_shelf : (("shelf" : Str) == ("__debug__" : Str)) = false := by decide +kernel
theorem nc_shelf : (("shelf" : Str) == ("__classdict__" : Str)) = false := by decide +kernel
theorem nd_sign : (("sign" : Str) == ("__debug__" : Str)) = false := by decide +kernel
theorem nc_sign : (("sign" : Str) == ("__classdict__" : Str)) = false := by decide +kernel
theorem nd_signs : (("signs" : Str) == ("__debug__" : Str)) = false := by decide +kernel
theorem nc_signs : (("signs" : Str) == ("__classdict__" : Str)) = false := by decide +kernel
theorem nd_some : (("some" : Str) == ("__debug__" : Str)) = false := by decide +kernel
theorem nc_some : (("some" : Str) == ("__classdict__" : Str)) = false := by decide +kernel
theorem nd_taker : (("taker" : Str) == ("__debug__" : Str)) = false := by decide +kernel
theorem nc_taker : (("taker" : Str) == ("__classdict__" : Str)) = false := by decide +kernel
theorem nd_text : (("text" : Str) == ("__debug__" : Str)) = false := by decide +kernel
theorem nc_text : (("text" : Str) == ("__classdict__" : Str)) = false := by decide +kernel
theorem nd_thing : (("thing" : Str) == ("__debug__" : Str)) = false := by decide +kernel
theorem nc_thing : (("thing" : Str) == ("__classdict__" : Str)) = false := by decide +kernel
theorem nd_two : (("two" : Str) == ("__debug__" : Str)) = false := by decide +kernel
theorem nc_two : (("two" : Str) == ("__classdict__" : Str)) = false := by decide +kernel
theorem nd_way : (("way" : Str) == ("__debug__" : Str)) = false := by decide +kernel
theorem nc_way : (("way" : Str) == ("__classdict__" : Str)) = false := by decide +kernel
theorem nd_word : (("word" : Str) == ("__debug__" : Str)) = false := by decide +kernel
theorem nc_word : (("word" : Str) == ("__classdict__" : Str)) = false := by decide +kernel
theorem nd_words : (("words" : Str) == ("__debug__" : Str)) = false := by decide +kernel
theorem nc_words : (("words" : Str) == ("__classdict__" : Str)) = false := by decide +kernel
theorem kap_inv {B : CAd} {k : Nat} {C0 : Addr} (h : (GG B).N.kap k = some C0) : (k = 13 ∧ C0 = B.c_Lay) ∨ (k = 14 ∧ C0 = B.c_Take) ∨ (k = 15 ∧ C0 = B.c_Line) ∨ (k = 16 ∧ C0 = B.c_Offer) ∨ (k = 17 ∧ C0 = B.c_Off) ∨ (k = 18 ∧ C0 = B.c_Put) ∨ (k = 19 ∧ C0 = B.c_Bell) := by
  unfold GG at h; simp only at h; split at h <;> simp_all
/-- what the top of the text has written -/
structure Txt (B : CAd) (K : PySem.W.Frag) (mg : Str → Option Value) : Prop where
  n_ValueError : mg "ValueError" = none
  n_bool : mg "bool" = none
  n_int : mg "int" = none
  n_isinstance : mg "isinstance" = none
  n_len : mg "len" = none
  n_list : mg "list" = none
  n_min : mg "min" = none
  n_range : mg "range" = none
  n_str : mg "str" = none
  n_tuple : mg "tuple" = none
  g_LETTERS : ∃ u, mg "LETTERS" = some u ∧ RelV (.str "abcdefghijklmnopqrstuvwxyz") u
  g_FIGURES : ∃ u, mg "FIGURES" = some u ∧ RelV (.str "0123456789") u
  m_HallError : mg "HallError" = some (.ref B.c_HallError)
  m_NoName : mg "NoName" = some (.ref B.c_NoName)
  m_NoAmount : mg "NoAmount" = some (.ref B.c_NoAmount)
  m_NoLeg : mg "NoLeg" = some (.ref B.c_NoLeg)
  m_NotWaiting : mg "NotWaiting" = some (.ref B.c_NotWaiting)
  m_Twice : mg "Twice" = some (.ref B.c_Twice)
  m_TooLittle : mg "TooLittle" = some (.ref B.c_TooLittle)
  m_NotNow : mg "NotNow" = some (.ref B.c_NotNow)
  m_NotForetold : mg "NotForetold" = some (.ref B.c_NotForetold)
  m_NoRow : mg "NoRow" = some (.ref B.c_NoRow)
  m_NoBack : mg "NoBack" = some (.ref B.c_NoBack)
  m_Lay : mg "Lay" = some (.ref B.c_Lay)
  m_Take : mg "Take" = some (.ref B.c_Take)
  m_Line : mg "Line" = some (.ref B.c_Line)
  m_Offer : mg "Offer" = some (.ref B.c_Offer)
  m_Off : mg "Off" = some (.ref B.c_Off)
  m_Put : mg "Put" = some (.ref B.c_Put)
  m_Bell : mg "Bell" = some (.ref B.c_Bell)
  x_NoName : ExK (GG B) K mg 1 "NoName"
  x_NoLeg : ExK (GG B) K mg 3 "NoLeg"
  x_NoRow : ExK (GG B) K mg 9 "NoRow"
  ec : ∀ k C0, (GG B).N.kex k = some C0 → L2.ExcC K C0
  kt_NoBack : ∀ k C0, (GG B).N.kex k = some C0 → PySem.W.kitOne K (.ref C0) (.ref B.c_NoBack) = some (excIs (GG B).T k (.own 10))
  kt_NotForetold : ∀ k C0, (GG B).N.kex k = some C0 → PySem.W.kitOne K (.ref C0) (.ref B.c_NotForetold) = some (excIs (GG B).T k (.own 8))
  kt_NotNow : ∀ k C0, (GG B).N.kex k = some C0 → PySem.W.kitOne K (.ref C0) (.ref B.c_NotNow) = some (excIs (GG B).T k (.own 7))
  kt_TooLittle : ∀ k C0, (GG B).N.kex k = some C0 → PySem.W.kitOne K (.ref C0) (.ref B.c_TooLittle) = some (excIs (GG B).T k (.own 6))
  kt_Twice : ∀ k C0, (GG B).N.kex k = some C0 → PySem.W.kitOne K (.ref C0) (.ref B.c_Twice) = some (excIs (GG B).T k (.own 5))
  kt_NotWaiting : ∀ k C0, (GG B).N.kex k = some C0 → PySem.W.kitOne K (.ref C0) (.ref B.c_NotWaiting) = some (excIs (GG B).T k (.own 4))
  kt_NoLeg : ∀ k C0, (GG B).N.kex k = some C0 → PySem.W.kitOne K (.ref C0) (.ref B.c_NoLeg) = some (excIs (GG B).T k (.own 3))
  kt_NoAmount : ∀ k C0, (GG B).N.kex k = some C0 → PySem.W.kitOne K (.ref C0) (.ref B.c_NoAmount) = some (excIs (GG B).T k (.own 2))
  kt_NoName : ∀ k C0, (GG B).N.kex k = some C0 → PySem.W.kitOne K (.ref C0) (.ref B.c_NoName) = some (excIs (GG B).T k (.own 1))
  kt_NoRow : ∀ k C0, (GG B).N.kex k = some C0 → PySem.W.kitOne K (.ref C0) (.ref B.c_NoRow) = some (excIs (GG B).T k (.own 9))
  kt_ValueError : ∀ k C0, (GG B).N.kex k = some C0 → PySem.W.kitOne K (.ref C0) (.type "ValueError") = some (excIs (GG B).T k .valErr)
  xm_HallError : ∀ k C0, (GG B).N.kex k = some C0 → PySem.W.exmOne K (.ref C0) (.ref B.c_HallError) = some ((GG B).T.sub k 0)
  cls : ClsAll (GG B) K
  na_shelf : NoAt (GG B) K 1
  na_amount : NoAt (GG B) K 2
  na_line : NoAt (GG B) K 3
  na_deal : NoAt (GG B) K 4
  na_name : NoAt (GG B) K 5
  na_place : NoAt (GG B) K 6
theorem rd_LETTERS {K : PySem.W.Frag} {μ : Mu} {H : Hp} : RD K μ H (.str "abcdefghijklmnopqrstuvwxyz") (.str s11) := by rw [← s11_e]; exact .strOf _ (.of (by rw [s11_e]; exact s11_b))
theorem rd_FIGURES {K : PySem.W.Frag} {μ : Mu} {H : Hp} : RD K μ H (.str "0123456789") (.str s26) := by rw [← s26_e]; exact .strOf _ (.of (by rw [s26_e]; exact s26_b))
theorem sc_is_name : FnScope ["thing", "sign"] ["thing"] (defScope (top 21)) := ⟨rfl, rfl, rfl, by decide +kernel, rfl, by decide +kernel, by decide +kernel⟩
theorem sc_is_amount : FnScope ["thing"] ["thing"] (defScope (top 22)) := ⟨rfl, rfl, rfl, by decide +kernel, rfl, by decide +kernel, by decide +kernel⟩
theorem sc_is_leg : FnScope ["thing"] ["thing"] (defScope (top 24)) := ⟨rfl, rfl, rfl, by decide +kernel, rfl, by decide +kernel, by decide +kernel⟩
theorem sc_deal_of : FnScope ["name", "legs", "leg"] ["name", "legs"] (defScope (top 25)) := ⟨rfl, rfl, rfl, by decide +kernel, rfl, by decide +kernel, by decide +kernel⟩
theorem sc_name_in : FnScope ["word"] ["word"] (defScope (top 55)) := ⟨rfl, rfl, rfl, by decide +kernel, rfl, by decide +kernel, by decide +kernel⟩
theorem sc_number_in : FnScope ["word", "sign"] ["word"] (defScope (top 56)) := ⟨rfl, rfl, rfl, by decide +kernel, rfl, by decide +kernel, by decide +kernel⟩
theorem sc_amount_in : FnScope ["word", "number"] ["word"] (defScope (top 57)) := ⟨rfl, rfl, rfl, by decide +kernel, rfl, by decide +kernel, by decide +kernel⟩
theorem sc_leg_in : FnScope ["text", "words", "giver", "taker"] ["text"] (defScope (top 58)) := ⟨rfl, rfl, rfl, by decide +kernel, rfl, by decide +kernel, by decide +kernel⟩
theorem sc_offer_in : FnScope ["text", "parts", "name", "legs", "part"] ["text"] (defScope (top 59)) := ⟨rfl, rfl, rfl, by decide +kernel, rfl, by decide +kernel, by decide +kernel⟩
theorem sc_shelf_deed : FnScope ["words", "shelf"] ["words"] (defScope (top 60)) := ⟨rfl, rfl, rfl, by decide +kernel, rfl, by decide +kernel, by decide +kernel⟩
theorem sc_read : FnScope ["row", "words", "shelf"] ["row"] (defScope (top 61)) := ⟨rfl, rfl, rfl, by decide +kernel, rfl, by decide +kernel, by decide +kernel⟩
theorem sc__law_cell_at : FnScope ["script", "k"] ["script", "k"] (defScope (top 63)) := ⟨rfl, rfl, rfl, by decide +kernel, rfl, by decide +kernel, by decide +kernel⟩
theorem sc__law_name : FnScope ["cell", "some", "number", "text", "k"] ["cell"] (defScope (top 64)) := ⟨rfl, rfl, rfl, by decide +kernel, rfl, by decide +kernel, by decide +kernel⟩
theorem sc__law_amount : FnScope ["cell"] ["cell"] (defScope (top 65)) := ⟨rfl, rfl, rfl, by decide +kernel, rfl, by decide +kernel, by decide +kernel⟩
theorem sc__law_leg : FnScope ["cell", "giver", "taker"] ["cell"] (defScope (top 66)) := ⟨rfl, rfl, rfl, by decide +kernel, rfl, by decide +kernel, by decide +kernel⟩
theorem sc__law_leg_text : FnScope ["leg"] ["leg"] (defScope (top 67)) := ⟨rfl, rfl, rfl, by decide +kernel, rfl, by decide +kernel, by decide +kernel⟩
theorem sc__law_made : FnScope ["head", "one", "two", "kind", "shelf", "front", "amount", "line", "legs", "text", "name", "place", "k", "leg"] ["head", "one", "two"] (defScope (top 68)) := ⟨rfl, rfl, rfl, by decide +kernel, rfl, by decide +kernel, by decide +kernel⟩
theorem sc__law_word : FnScope ["word", "sign"] ["word"] (defScope (top 69)) := ⟨rfl, rfl, rfl, by decide +kernel, rfl, by decide +kernel, by decide +kernel⟩
theorem sc__law_figures : FnScope ["word", "bottom", "sign"] ["word", "bottom"] (defScope (top 70)) := ⟨rfl, rfl, rfl, by decide +kernel, rfl, by decide +kernel, by decide +kernel⟩
theorem sc__law_is_leg : FnScope ["text", "words"] ["text"] (defScope (top 71)) := ⟨rfl, rfl, rfl, by decide +kernel, rfl, by decide +kernel, by decide +kernel⟩
theorem sc__law_is_deal : FnScope ["words", "legs", "leg"] ["words"] (defScope (top 72)) := ⟨rfl, rfl, rfl, by decide +kernel, rfl, by decide +kernel, by decide +kernel⟩
theorem sc__law_good : FnScope ["row", "words"] ["row"] (defScope (top 73)) := ⟨rfl, rfl, rfl, by decide +kernel, rfl, by decide +kernel, by decide +kernel⟩
theorem sc__law_signs : FnScope ["text", "place", "sign", "way"] ["text", "place", "sign", "way"] (defScope (top 74)) := ⟨rfl, rfl, rfl, by decide +kernel, rfl, by decide +kernel, by decide +kernel⟩
theorem sc__law_words : FnScope ["text", "place", "rest", "way", "words", "k", "some"] ["text", "place", "rest", "way"] (defScope (top 75)) := ⟨rfl, rfl, rfl, by decide +kernel, rfl, by decide +kernel, by decide +kernel⟩
theorem sc__law_spoiled : FnScope ["text", "cell", "signs", "number", "way", "place", "rest", "some"] ["text", "cell"] (defScope (top 76)) := ⟨rfl, rfl, rfl, by decide +kernel, rfl, by decide +kernel, by decide +kernel⟩
theorem sc__law_told : FnScope ["row", "found", "kinds", "e"] ["row"] (defScope (top 77)) := ⟨rfl, rfl, rfl, by decide +kernel, rfl, by decide +kernel, by decide +kernel⟩
theorem sc_law : FnScope ["script", "k", "cells", "row", "found", "kinds", "j"] ["script"] (defScope (top 78)) := ⟨rfl, rfl, rfl, by decide +kernel, rfl, by decide +kernel, by decide +kernel⟩
theorem sc_Lay___init__ : FnScope ["self", "shelf", "amount"] ["self", "shelf", "amount"] (defScope (mth 46 0)) := ⟨rfl, rfl, rfl, by decide +kernel, rfl, by decide +kernel, by decide +kernel⟩
theorem sc_Lay_row : FnScope ["self"] ["self"] (defScope (mth 46 2)) := ⟨rfl, rfl, rfl, by decide +kernel, rfl, by decide +kernel, by decide +kernel⟩
theorem sc_Take___init__ : FnScope ["self", "shelf", "amount"] ["self", "shelf", "amount"] (defScope (mth 47 0)) := ⟨rfl, rfl, rfl, by decide +kernel, rfl, by decide +kernel, by decide +kernel⟩
theorem sc_Take_row : FnScope ["self"] ["self"] (defScope (mth 47 2)) := ⟨rfl, rfl, rfl, by decide +kernel, rfl, by decide +kernel, by decide +kernel⟩
theorem sc_Line___init__ : FnScope ["self", "shelf", "line"] ["self", "shelf", "line"] (defScope (mth 48 0)) := ⟨rfl, rfl, rfl, by decide +kernel, rfl, by decide +kernel, by decide +kernel⟩
theorem sc_Line_row : FnScope ["self"] ["self"] (defScope (mth 48 2)) := ⟨rfl, rfl, rfl, by decide +kernel, rfl, by decide +kernel, by decide +kernel⟩
theorem sc_Offer___init__ : FnScope ["self", "deal"] ["self", "deal"] (defScope (mth 49 0)) := ⟨rfl, rfl, rfl, by decide +kernel, rfl, by decide +kernel, by decide +kernel⟩
theorem sc_Offer_row : FnScope ["self", "legs", "leg"] ["self"] (defScope (mth 49 2)) := ⟨rfl, rfl, rfl, by decide +kernel, rfl, by decide +kernel, by decide +kernel⟩
theorem sc_Off___init__ : FnScope ["self", "name"] ["self", "name"] (defScope (mth 50 0)) := ⟨rfl, rfl, rfl, by decide +kernel, rfl, by decide +kernel, by decide +kernel⟩
theorem sc_Off_row : FnScope ["self"] ["self"] (defScope (mth 50 2)) := ⟨rfl, rfl, rfl, by decide +kernel, rfl, by decide +kernel, by decide +kernel⟩
theorem sc_Put___init__ : FnScope ["self", "shelf", "name", "place"] ["self", "shelf", "name", "place"] (defScope (mth 51 0)) := ⟨rfl, rfl, rfl, by decide +kernel, rfl, by decide +kernel, by decide +kernel⟩
theorem sc_Put_row : FnScope ["self"] ["self"] (defScope (mth 51 2)) := ⟨rfl, rfl, rfl, by decide +kernel, rfl, by decide +kernel, by decide +kernel⟩
theorem sc_Bell_row : FnScope ["self"] ["self"] (defScope (mth 52 1)) := ⟨rfl, rfl, rfl, by decide +kernel, rfl, by decide +kernel, by decide +kernel⟩
/-- every def, at a level -/
structure Ads where
  a_is_name : Addr
  a_is_amount : Addr
  a_is_leg : Addr
  a_deal_of : Addr
  a_name_in : Addr
  a_number_in : Addr
  a_amount_in : Addr
  a_leg_in : Addr
  a_offer_in : Addr
  a_shelf_deed : Addr
  a_read : Addr
  a__law_cell_at : Addr
  a__law_name : Addr
  a__law_amount : Addr
  a__law_leg : Addr
  a__law_leg_text : Addr
  a__law_made : Addr
  a__law_word : Addr
  a__law_figures : Addr
  a__law_is_leg : Addr
  a__law_is_deal : Addr
  a__law_good : Addr
  a__law_signs : Addr
  a__law_words : Addr
  a__law_spoiled : Addr
  a__law_told : Addr
  a_law : Addr
  a_Lay___init__ : Addr
  a_Lay_row : Addr
  a_Take___init__ : Addr
  a_Take_row : Addr
  a_Line___init__ : Addr
  a_Line_row : Addr
  a_Offer___init__ : Addr
  a_Offer_row : Addr
  a_Off___init__ : Addr
  a_Off_row : Addr
  a_Put___init__ : Addr
  a_Put_row : Addr
  a_Bell_row : Addr
  d_is_name : FuncData
  d_is_amount : FuncData
  d_is_leg : FuncData
  d_deal_of : FuncData
  d_name_in : FuncData
  d_number_in : FuncData
  d_amount_in : FuncData
  d_leg_in : FuncData
  d_offer_in : FuncData
  d_shelf_deed : FuncData
  d_read : FuncData
  d__law_cell_at : FuncData
  d__law_name : FuncData
  d__law_amount : FuncData
  d__law_leg : FuncData
  d__law_leg_text : FuncData
  d__law_made : FuncData
  d__law_word : FuncData
  d__law_figures : FuncData
  d__law_is_leg : FuncData
  d__law_is_deal : FuncData
  d__law_good : FuncData
  d__law_signs : FuncData
  d__law_words : FuncData
  d__law_spoiled : FuncData
  d__law_told : FuncData
  d_law : FuncData
  d_Lay___init__ : FuncData
  d_Lay_row : FuncData
  d_Take___init__ : FuncData
  d_Take_row : FuncData
  d_Line___init__ : FuncData
  d_Line_row : FuncData
  d_Offer___init__ : FuncData
  d_Offer_row : FuncData
  d_Off___init__ : FuncData
  d_Off_row : FuncData
  d_Put___init__ : FuncData
  d_Put_row : FuncData
  d_Bell_row : FuncData
section
variable {w : World} {K : PySem.W.Frag} {mg : Str → Option Value} {base : Heap}
variable {B : CAd}
structure All (w : World) (K : PySem.W.Frag) (mg : Str → Option Value) (base : Heap) (B : CAd) (A : Ads) (n : Nat) : Prop where
  f_is_name : Cal PP w K mg base (GG B) n 0 "is_name" A.a_is_name A.d_is_name ["thing"]
  f_is_amount : Cal PP w K mg base (GG B) n 1 "is_amount" A.a_is_amount A.d_is_amount ["thing"]
  f_is_leg : Cal PP w K mg base (GG B) n 2 "is_leg" A.a_is_leg A.d_is_leg ["thing"]
  f_deal_of : Cal PP w K mg base (GG B) n 3 "deal_of" A.a_deal_of A.d_deal_of ["name", "legs"]
  f_name_in : Cal PP w K mg base (GG B) n 4 "name_in" A.a_name_in A.d_name_in ["word"]
  f_number_in : Cal PP w K mg base (GG B) n 5 "number_in" A.a_number_in A.d_number_in ["word"]
  f_amount_in : Cal PP w K mg base (GG B) n 6 "amount_in" A.a_amount_in A.d_amount_in ["word"]
  f_leg_in : Cal PP w K mg base (GG B) n 7 "leg_in" A.a_leg_in A.d_leg_in ["text"]
  f_offer_in : Cal PP w K mg base (GG B) n 8 "offer_in" A.a_offer_in A.d_offer_in ["text"]
  f_shelf_deed : Cal PP w K mg base (GG B) n 9 "shelf_deed" A.a_shelf_deed A.d_shelf_deed ["words"]
  f_read : Cal PP w K mg base (GG B) n 10 "read" A.a_read A.d_read ["row"]
  f__law_cell_at : Cal PP w K mg base (GG B) n 11 "_law_cell_at" A.a__law_cell_at A.d__law_cell_at ["script", "k"]
  f__law_name : Cal PP w K mg base (GG B) n 12 "_law_name" A.a__law_name A.d__law_name ["cell"]
  f__law_amount : Cal PP w K mg base (GG B) n 13 "_law_amount" A.a__law_amount A.d__law_amount ["cell"]
  f__law_leg : Cal PP w K mg base (GG B) n 14 "_law_leg" A.a__law_leg A.d__law_leg ["cell"]
  f__law_leg_text : Cal PP w K mg base (GG B) n 15 "_law_leg_text" A.a__law_leg_text A.d__law_leg_text ["leg"]
  f__law_made : Cal PP w K mg base (GG B) n 16 "_law_made" A.a__law_made A.d__law_made ["head", "one", "two"]
  f__law_word : Cal PP w K mg base (GG B) n 17 "_law_word" A.a__law_word A.d__law_word ["word"]
  f__law_figures : Cal PP w K mg base (GG B) n 18 "_law_figures" A.a__law_figures A.d__law_figures ["word", "bottom"]
  f__law_is_leg : Cal PP w K mg base (GG B) n 19 "_law_is_leg" A.a__law_is_leg A.d__law_is_leg ["text"]
  f__law_is_deal : Cal PP w K mg base (GG B) n 20 "_law_is_deal" A.a__law_is_deal A.d__law_is_deal ["words"]
  f__law_good : Cal PP w K mg base (GG B) n 21 "_law_good" A.a__law_good A.d__law_good ["row"]
  f__law_signs : Cal PP w K mg base (GG B) n 22 "_law_signs" A.a__law_signs A.d__law_signs ["text", "place", "sign", "way"]
  f__law_words : Cal PP w K mg base (GG B) n 23 "_law_words" A.a__law_words A.d__law_words ["text", "place", "rest", "way"]
  f__law_spoiled : Cal PP w K mg base (GG B) n 24 "_law_spoiled" A.a__law_spoiled A.d__law_spoiled ["text", "cell"]
  f__law_told : Cal PP w K mg base (GG B) n 25 "_law_told" A.a__law_told A.d__law_told ["row"]
  f_law : Cal PP w K mg base (GG B) n 26 "law" A.a_law A.d_law ["script"]
  f_Lay___init__ : CalM PP w K mg base (GG B) n 27 A.a_Lay___init__ A.d_Lay___init__ ["self", "shelf", "amount"]
  f_Lay_row : CalM PP w K mg base (GG B) n 28 A.a_Lay_row A.d_Lay_row ["self"]
  f_Take___init__ : CalM PP w K mg base (GG B) n 29 A.a_Take___init__ A.d_Take___init__ ["self", "shelf", "amount"]
  f_Take_row : CalM PP w K mg base (GG B) n 30 A.a_Take_row A.d_Take_row ["self"]
  f_Line___init__ : CalM PP w K mg base (GG B) n 31 A.a_Line___init__ A.d_Line___init__ ["self", "shelf", "line"]
  f_Line_row : CalM PP w K mg base (GG B) n 32 A.a_Line_row A.d_Line_row ["self"]
  f_Offer___init__ : CalM PP w K mg base (GG B) n 33 A.a_Offer___init__ A.d_Offer___init__ ["self", "deal"]
  f_Offer_row : CalM PP w K mg base (GG B) n 34 A.a_Offer_row A.d_Offer_row ["self"]
  f_Off___init__ : CalM PP w K mg base (GG B) n 35 A.a_Off___init__ A.d_Off___init__ ["self", "name"]
  f_Off_row : CalM PP w K mg base (GG B) n 36 A.a_Off_row A.d_Off_row ["self"]
  f_Put___init__ : CalM PP w K mg base (GG B) n 37 A.a_Put___init__ A.d_Put___init__ ["self", "shelf", "name", "place"]
  f_Put_row : CalM PP w K mg base (GG B) n 38 A.a_Put_row A.d_Put_row ["self"]
  f_Bell_row : CalM PP w K mg base (GG B) n 39 A.a_Bell_row A.d_Bell_row ["self"]
structure Funs (K : PySem.W.Frag) (mg : Str → Option Value) (A : Ads) : Prop where
  u_is_name : L2.Fun K "is_name" "is_name" (top 21) A.a_is_name A.d_is_name
  g_is_name : mg "is_name" = some (.ref A.a_is_name)
  b_is_name : Binds K A.d_is_name ["thing"] []
  u_is_amount : L2.Fun K "is_amount" "is_amount" (top 22) A.a_is_amount A.d_is_amount
  g_is_amount : mg "is_amount" = some (.ref A.a_is_amount)
  b_is_amount : Binds K A.d_is_amount ["thing"] []
  u_is_leg : L2.Fun K "is_leg" "is_leg" (top 24) A.a_is_leg A.d_is_leg
  g_is_leg : mg "is_leg" = some (.ref A.a_is_leg)
  b_is_leg : Binds K A.d_is_leg ["thing"] []
  u_deal_of : L2.Fun K "deal_of" "deal_of" (top 25) A.a_deal_of A.d_deal_of
  g_deal_of : mg "deal_of" = some (.ref A.a_deal_of)
  b_deal_of : Binds K A.d_deal_of ["name", "legs"] []
  u_name_in : L2.Fun K "name_in" "name_in" (top 55) A.a_name_in A.d_name_in
  g_name_in : mg "name_in" = some (.ref A.a_name_in)
  b_name_in : Binds K A.d_name_in ["word"] []
  u_number_in : L2.Fun K "number_in" "number_in" (top 56) A.a_number_in A.d_number_in
  g_number_in : mg "number_in" = some (.ref A.a_number_in)
  b_number_in : Binds K A.d_number_in ["word"] []
  u_amount_in : L2.Fun K "amount_in" "amount_in" (top 57) A.a_amount_in A.d_amount_in
  g_amount_in : mg "amount_in" = some (.ref A.a_amount_in)
  b_amount_in : Binds K A.d_amount_in ["word"] []
  u_leg_in : L2.Fun K "leg_in" "leg_in" (top 58) A.a_leg_in A.d_leg_in
  g_leg_in : mg "leg_in" = some (.ref A.a_leg_in)
  b_leg_in : Binds K A.d_leg_in ["text"] []
  u_offer_in : L2.Fun K "offer_in" "offer_in" (top 59) A.a_offer_in A.d_offer_in
  g_offer_in : mg "offer_in" = some (.ref A.a_offer_in)
  b_offer_in : Binds K A.d_offer_in ["text"] []
  u_shelf_deed : L2.Fun K "shelf_deed" "shelf_deed" (top 60) A.a_shelf_deed A.d_shelf_deed
  g_shelf_deed : mg "shelf_deed" = some (.ref A.a_shelf_deed)
  b_shelf_deed : Binds K A.d_shelf_deed ["words"] []
  u_read : L2.Fun K "read" "read" (top 61) A.a_read A.d_read
  g_read : mg "read" = some (.ref A.a_read)
  b_read : Binds K A.d_read ["row"] []
  u__law_cell_at : L2.Fun K "_law_cell_at" "_law_cell_at" (top 63) A.a__law_cell_at A.d__law_cell_at
  g__law_cell_at : mg "_law_cell_at" = some (.ref A.a__law_cell_at)
  b__law_cell_at : Binds K A.d__law_cell_at ["script", "k"] []
  u__law_name : L2.Fun K "_law_name" "_law_name" (top 64) A.a__law_name A.d__law_name
  g__law_name : mg "_law_name" = some (.ref A.a__law_name)
  b__law_name : Binds K A.d__law_name ["cell"] []
  u__law_amount : L2.Fun K "_law_amount" "_law_amount" (top 65) A.a__law_amount A.d__law_amount
  g__law_amount : mg "_law_amount" = some (.ref A.a__law_amount)
  b__law_amount : Binds K A.d__law_amount ["cell"] []
  u__law_leg : L2.Fun K "_law_leg" "_law_leg" (top 66) A.a__law_leg A.d__law_leg
  g__law_leg : mg "_law_leg" = some (.ref A.a__law_leg)
  b__law_leg : Binds K A.d__law_leg ["cell"] []
  u__law_leg_text : L2.Fun K "_law_leg_text" "_law_leg_text" (top 67) A.a__law_leg_text A.d__law_leg_text
  g__law_leg_text : mg "_law_leg_text" = some (.ref A.a__law_leg_text)
  b__law_leg_text : Binds K A.d__law_leg_text ["leg"] []
  u__law_made : L2.Fun K "_law_made" "_law_made" (top 68) A.a__law_made A.d__law_made
  g__law_made : mg "_law_made" = some (.ref A.a__law_made)
  b__law_made : Binds K A.d__law_made ["head", "one", "two"] []
  u__law_word : L2.Fun K "_law_word" "_law_word" (top 69) A.a__law_word A.d__law_word
  g__law_word : mg "_law_word" = some (.ref A.a__law_word)
  b__law_word : Binds K A.d__law_word ["word"] []
  u__law_figures : L2.Fun K "_law_figures" "_law_figures" (top 70) A.a__law_figures A.d__law_figures
  g__law_figures : mg "_law_figures" = some (.ref A.a__law_figures)
  b__law_figures : Binds K A.d__law_figures ["word", "bottom"] []
  u__law_is_leg : L2.Fun K "_law_is_leg" "_law_is_leg" (top 71) A.a__law_is_leg A.d__law_is_leg
  g__law_is_leg : mg "_law_is_leg" = some (.ref A.a__law_is_leg)
  b__law_is_leg : Binds K A.d__law_is_leg ["text"] []
  u__law_is_deal : L2.Fun K "_law_is_deal" "_law_is_deal" (top 72) A.a__law_is_deal A.d__law_is_deal
  g__law_is_deal : mg "_law_is_deal" = some (.ref A.a__law_is_deal)
  b__law_is_deal : Binds K A.d__law_is_deal ["words"] []
  u__law_good : L2.Fun K "_law_good" "_law_good" (top 73) A.a__law_good A.d__law_good
  g__law_good : mg "_law_good" = some (.ref A.a__law_good)
  b__law_good : Binds K A.d__law_good ["row"] []
  u__law_signs : L2.Fun K "_law_signs" "_law_signs" (top 74) A.a__law_signs A.d__law_signs
  g__law_signs : mg "_law_signs" = some (.ref A.a__law_signs)
  b__law_signs : Binds K A.d__law_signs ["text", "place", "sign", "way"] []
  u__law_words : L2.Fun K "_law_words" "_law_words" (top 75) A.a__law_words A.d__law_words
  g__law_words : mg "_law_words" = some (.ref A.a__law_words)
  b__law_words : Binds K A.d__law_words ["text", "place", "rest", "way"] []
  u__law_spoiled : L2.Fun K "_law_spoiled" "_law_spoiled" (top 76) A.a__law_spoiled A.d__law_spoiled
  g__law_spoiled : mg "_law_spoiled" = some (.ref A.a__law_spoiled)
  b__law_spoiled : Binds K A.d__law_spoiled ["text", "cell"] []
  u__law_told : L2.Fun K "_law_told" "_law_told" (top 77) A.a__law_told A.d__law_told
  g__law_told : mg "_law_told" = some (.ref A.a__law_told)
  b__law_told : Binds K A.d__law_told ["row"] []
  u_law : L2.Fun K "law" "law" (top 78) A.a_law A.d_law
  g_law : mg "law" = some (.ref A.a_law)
  b_law : Binds K A.d_law ["script"] []
  u_Lay___init__ : L2.Fun K "__init__" "Lay.__init__" (mth 46 0) A.a_Lay___init__ A.d_Lay___init__
  b_Lay___init__ : Binds K A.d_Lay___init__ ["self", "shelf", "amount"] []
  u_Lay_row : L2.Fun K "row" "Lay.row" (mth 46 2) A.a_Lay_row A.d_Lay_row
  b_Lay_row : Binds K A.d_Lay_row ["self"] []
  u_Take___init__ : L2.Fun K "__init__" "Take.__init__" (mth 47 0) A.a_Take___init__ A.d_Take___init__
  b_Take___init__ : Binds K A.d_Take___init__ ["self", "shelf", "amount"] []
  u_Take_row : L2.Fun K "row" "Take.row" (mth 47 2) A.a_Take_row A.d_Take_row
  b_Take_row : Binds K A.d_Take_row ["self"] []
  u_Line___init__ : L2.Fun K "__init__" "Line.__init__" (mth 48 0) A.a_Line___init__ A.d_Line___init__
  b_Line___init__ : Binds K A.d_Line___init__ ["self", "shelf", "line"] []
  u_Line_row : L2.Fun K "row" "Line.row" (mth 48 2) A.a_Line_row A.d_Line_row
  b_Line_row : Binds K A.d_Line_row ["self"] []
  u_Offer___init__ : L2.Fun K "__init__" "Offer.__init__" (mth 49 0) A.a_Offer___init__ A.d_Offer___init__
  b_Offer___init__ : Binds K A.d_Offer___init__ ["self", "deal"] []
  u_Offer_row : L2.Fun K "row" "Offer.row" (mth 49 2) A.a_Offer_row A.d_Offer_row
  b_Offer_row : Binds K A.d_Offer_row ["self"] []
  u_Off___init__ : L2.Fun K "__init__" "Off.__init__" (mth 50 0) A.a_Off___init__ A.d_Off___init__
  b_Off___init__ : Binds K A.d_Off___init__ ["self", "name"] []
  u_Off_row : L2.Fun K "row" "Off.row" (mth 50 2) A.a_Off_row A.d_Off_row
  b_Off_row : Binds K A.d_Off_row ["self"] []
  u_Put___init__ : L2.Fun K "__init__" "Put.__init__" (mth 51 0) A.a_Put___init__ A.d_Put___init__
  b_Put___init__ : Binds K A.d_Put___init__ ["self", "shelf", "name", "place"] []
  u_Put_row : L2.Fun K "row" "Put.row" (mth 51 2) A.a_Put_row A.d_Put_row
  b_Put_row : Binds K A.d_Put_row ["self"] []
  u_Bell_row : L2.Fun K "row" "Bell.row" (mth 52 1) A.a_Bell_row A.d_Bell_row
  b_Bell_row : Binds K A.d_Bell_row ["self"] []
structure Clss (K : PySem.W.Frag) (B : CAd) (A : Ads) : Prop where
  mk_Lay : L2.Mk K B.c_Lay A.a_Lay___init__
  me_Lay_row : L2.Meth K B.c_Lay "row" A.a_Lay_row
  cl_Lay : L2.Cls K B.c_Lay
  mk_Take : L2.Mk K B.c_Take A.a_Take___init__
  me_Take_row : L2.Meth K B.c_Take "row" A.a_Take_row
  cl_Take : L2.Cls K B.c_Take
  mk_Line : L2.Mk K B.c_Line A.a_Line___init__
  me_Line_row : L2.Meth K B.c_Line "row" A.a_Line_row
  cl_Line : L2.Cls K B.c_Line
  mk_Offer : L2.Mk K B.c_Offer A.a_Offer___init__
  me_Offer_row : L2.Meth K B.c_Offer "row" A.a_Offer_row
  cl_Offer : L2.Cls K B.c_Offer
  mk_Off : L2.Mk K B.c_Off A.a_Off___init__
  me_Off_row : L2.Meth K B.c_Off "row" A.a_Off_row
  cl_Off : L2.Cls K B.c_Off
  mk_Put : L2.Mk K B.c_Put A.a_Put___init__
  me_Put_row : L2.Meth K B.c_Put "row" A.a_Put_row
  cl_Put : L2.Cls K B.c_Put
  mk_Bell : Mk0 K B.c_Bell
  me_Bell_row : L2.Meth K B.c_Bell "row" A.a_Bell_row
  cl_Bell : L2.Cls K B.c_Bell
theorem met_row {A : Ads} {n : Nat} (c : All w K mg base B A n) (cl : Clss K B A) : ∀ c0 C0 g, (GG B).N.kap c0 = some C0 → (GG B).T.met c0 0 = some g → ∃ (fa : Addr) (fd : FuncData) (ps : List Str), L2.Cls K C0 ∧ L2.Meth K C0 ((GG B).N.nm 0) fa ∧ FnOk PP w K mg base (L2.CX PP w) (2 * n) fa fd ps (spOf (GG B) K n g) ∧ Binds K fd ps [] := by
  intro c0 C0 g h1 h2
  rcases kap_inv h1 with ⟨rfl, rfl⟩ | ⟨rfl, rfl⟩ | ⟨rfl, rfl⟩ | ⟨rfl, rfl⟩ | ⟨rfl, rfl⟩ | ⟨rfl, rfl⟩ | ⟨rfl, rfl⟩
  · cases (show some 28 = some g from h2); exact ⟨_, _, _, cl.cl_Lay, cl.me_Lay_row, c.f_Lay_row.ok, c.f_Lay_row.bd⟩
  · cases (show some 30 = some g from h2); exact ⟨_, _, _, cl.cl_Take, cl.me_Take_row, c.f_Take_row.ok, c.f_Take_row.bd⟩
  · cases (show some 32 = some g from h2); exact ⟨_, _, _, cl.cl_Line, cl.me_Line_row, c.f_Line_row.ok, c.f_Line_row.bd⟩
  · cases (show some 34 = some g from h2); exact ⟨_, _, _, cl.cl_Offer, cl.me_Offer_row, c.f_Offer_row.ok, c.f_Offer_row.bd⟩
  · cases (show some 36 = some g from h2); exact ⟨_, _, _, cl.cl_Off, cl.me_Off_row, c.f_Off_row.ok, c.f_Off_row.bd⟩
  · cases (show some 38 = some g from h2); exact ⟨_, _, _, cl.cl_Put, cl.me_Put_row, c.f_Put_row.ok, c.f_Put_row.bd⟩
  · cases (show some 39 = some g from h2); exact ⟨_, _, _, cl.cl_Bell, cl.me_Bell_row, c.f_Bell_row.ok, c.f_Bell_row.bd⟩
theorem wk_is_name {A : Ads} (t : Txt B K mg) {n : Nat} (c : All w K mg base B A n) (F : Funs K mg A) (cl : Clss K B A) : FnOk PP w K mg base (L2.CX PP w) (2 * (n + 1)) A.a_is_name A.d_is_name ["thing"] (spOf (GG B) K (n + 1) 0) :=
  def_ok F.u_is_name sc_is_name rfl fun cdv Ar outer s H E hr => by
  have hC := wpCall_mono (GG B).T (GG B).F n
  have hu := hu_of' hr
  have hp : PassesOwn (model (cxOf (L2.CX PP w) PP w K mg base ["thing", "sign"] "is_name" (defScope (top 21)) A.a_is_name cdv Ar outer s H E).prog (cxOf (L2.CX PP w) PP w K mg base ["thing", "sign"] "is_name" (defScope (top 21)) A.a_is_name cdv Ar outer s H E).w) (cxOf (L2.CX PP w) PP w K mg base ["thing", "sign"] "is_name" (defScope (top 21)) A.a_is_name cdv Ar outer s H E).A (cxOf (L2.CX PP w) PP w K mg base ["thing", "sign"] "is_name" (defScope (top 21)) A.a_is_name cdv Ar outer s H E).env (cxOf (L2.CX PP w) PP w K mg base ["thing", "sign"] "is_name" (defScope (top 21)) A.a_is_name cdv Ar outer s H E).xe := passes_of rfl
  exact (css_cons (cs_ite hC (CW.ct (cw_or hC (ct_not hC (ct_val (ce_isi hC (pc := ⟨0, 0, 0, 0⟩) (cl := .ty .str) (clok_ty (n := .str)) (.ty _) (pe_bty (by rfl) t.n_str (by decide +kernel)) (ce_var (i := 0) rfl (.inl rfl) nd_thing nc_thing) (by rfl) t.n_isinstance) (fun _ => rfl) hC)) (cw_or1 (ct_not hC (ct_chain hC op_le op_le vk_le vk_le ce_int (ce_callB hC call_lenAll vk_len (.cons (ce_var (i := 0) rfl (.inl rfl) nd_thing nc_thing) (nostar rfl) .nil) (by rfl) t.n_len (by decide +kernel)) ce_int (by rfl)))))) (css_cons (cs_ret hC ce_bl)
    css_nil) css_nil)
    (css_cons (cs_for1 (i := 1) hC hp rfl sc_is_name.nd rfl (.inl rfl) (.inl rfl) (ci_seq hC (ce_var (i := 0) rfl (.inl rfl) nd_thing nc_thing)) (css_cons (cs_ite hC (ct_cmp hC (op_ninAll hu) vk_nin (ce_var (i := 1) rfl (.inl rfl) nd_sign nc_sign) (ce_glob (g := 0) (by rfl) t.g_LETTERS (fun _ _ => rd_LETTERS) rfl nd_LETTERS) (by rfl)) (css_cons (cs_ret hC ce_bl)
    css_nil) css_nil)
    css_nil))
    (css_cons (cs_ret hC ce_bl)
    css_nil)))
theorem wk_is_amount {A : Ads} (t : Txt B K mg) {n : Nat} (c : All w K mg base B A n) (F : Funs K mg A) (cl : Clss K B A) : FnOk PP w K mg base (L2.CX PP w) (2 * (n + 1)) A.a_is_amount A.d_is_amount ["thing"] (spOf (GG B) K (n + 1) 1) :=
  def_ok F.u_is_amount sc_is_amount rfl fun cdv Ar outer s H E hr => by
  have hC := wpCall_mono (GG B).T (GG B).F n
  have hu := hu_of' hr
  have hp : PassesOwn (model (cxOf (L2.CX PP w) PP w K mg base ["thing"] "is_amount" (defScope (top 22)) A.a_is_amount cdv Ar outer s H E).prog (cxOf (L2.CX PP w) PP w K mg base ["thing"] "is_amount" (defScope (top 22)) A.a_is_amount cdv Ar outer s H E).w) (cxOf (L2.CX PP w) PP w K mg base ["thing"] "is_amount" (defScope (top 22)) A.a_is_amount cdv Ar outer s H E).A (cxOf (L2.CX PP w) PP w K mg base ["thing"] "is_amount" (defScope (top 22)) A.a_is_amount cdv Ar outer s H E).env (cxOf (L2.CX PP w) PP w K mg base ["thing"] "is_amount" (defScope (top 22)) A.a_is_amount cdv Ar outer s H E).xe := passes_of rfl
  exact (css_cons (cs_ret hC (ce_and hC (ce_isi hC (pc := ⟨0, 0, 0, 0⟩) (cl := .ty .int) (clok_ty (n := .int)) (.ty _) (pe_bty (by rfl) t.n_int (by decide +kernel)) (ce_var (i := 0) rfl (.inl rfl) nd_thing nc_thing) (by rfl) t.n_isinstance) (ce_and hC (ce_not hC (ce_isi hC (pc := ⟨0, 0, 0, 0⟩) (cl := .ty .bl) (clok_ty (n := .bl)) (.ty _) (pe_bty (by rfl) t.n_bool (by decide +kernel)) (ce_var (i := 0) rfl (.inl rfl) nd_thing nc_thing) (by rfl) t.n_isinstance)) (ce_one (ce_chain hC op_le (op_ltAll hu) vk_le vk_lt ce_int (ce_var (i := 0) rfl (.inl rfl) nd_thing nc_thing) (ce_bin hC op_pow vk_pow ce_int ce_int) (by rfl))))))
    css_nil)
theorem wk_is_leg {A : Ads} (t : Txt B K mg) {n : Nat} (c : All w K mg base B A n) (F : Funs K mg A) (cl : Clss K B A) : FnOk PP w K mg base (L2.CX PP w) (2 * (n + 1)) A.a_is_leg A.d_is_leg ["thing"] (spOf (GG B) K (n + 1) 2) :=
  def_ok F.u_is_leg sc_is_leg rfl fun cdv Ar outer s H E hr => by
  have hC := wpCall_mono (GG B).T (GG B).F n
  have hu := hu_of' hr
  have hp : PassesOwn (model (cxOf (L2.CX PP w) PP w K mg base ["thing"] "is_leg" (defScope (top 24)) A.a_is_leg cdv Ar outer s H E).prog (cxOf (L2.CX PP w) PP w K mg base ["thing"] "is_leg" (defScope (top 24)) A.a_is_leg cdv Ar outer s H E).w) (cxOf (L2.CX PP w) PP w K mg base ["thing"] "is_leg" (defScope (top 24)) A.a_is_leg cdv Ar outer s H E).A (cxOf (L2.CX PP w) PP w K mg base ["thing"] "is_leg" (defScope (top 24)) A.a_is_leg cdv Ar outer s H E).env (cxOf (L2.CX PP w) PP w K mg base ["thing"] "is_leg" (defScope (top 24)) A.a_is_leg cdv Ar outer s H E).xe := passes_of rfl
  exact (css_cons (cs_ite hC (CW.ct (cw_or hC (ct_not hC (ct_val (ce_isi hC (pc := ⟨0, 0, 0, 0⟩) (cl := .ty .tup) (clok_ty (n := .tup)) (.ty _) (pe_bty (by rfl) t.n_tuple (by decide +kernel)) (ce_var (i := 0) rfl (.inl rfl) nd_thing nc_thing) (by rfl) t.n_isinstance) (fun _ => rfl) hC)) (cw_or1 (ct_cmp hC (op_neAll hu) vk_ne (ce_callB hC call_lenAll vk_len (.cons (ce_var (i := 0) rfl (.inl rfl) nd_thing nc_thing) (nostar rfl) .nil) (by rfl) t.n_len (by decide +kernel)) ce_int (by rfl))))) (css_cons (cs_ret hC ce_bl)
    css_nil) css_nil)
    (css_cons (cs_ite hC (CW.ct (cw_or hC (ct_not hC (ct_val (ce_call (c.f_is_name) hr (by rfl) (.cons (ce_ix hC hu (ce_var (i := 0) rfl (.inl rfl) nd_thing nc_thing) ce_int (fun _ _ => rfl)) (nostar rfl) .nil)) (fun _ => rfl) hC)) (cw_or hC (ct_not hC (ct_val (ce_call (c.f_is_name) hr (by rfl) (.cons (ce_ix hC hu (ce_var (i := 0) rfl (.inl rfl) nd_thing nc_thing) ce_int (fun _ _ => rfl)) (nostar rfl) .nil)) (fun _ => rfl) hC)) (cw_or1 (ct_cmp hC (op_eqAll hu) vk_eq (ce_ix hC hu (ce_var (i := 0) rfl (.inl rfl) nd_thing nc_thing) ce_int (fun _ _ => rfl)) (ce_ix hC hu (ce_var (i := 0) rfl (.inl rfl) nd_thing nc_thing) ce_int (fun _ _ => rfl)) (by rfl)))))) (css_cons (cs_ret hC ce_bl)
    css_nil) css_nil)
    (css_cons (cs_ret hC (ce_and hC (ce_call (c.f_is_name) hr (by rfl) (.cons (ce_ix hC hu (ce_var (i := 0) rfl (.inl rfl) nd_thing nc_thing) ce_int (fun _ _ => rfl)) (nostar rfl) .nil)) (ce_one (ce_call (c.f_is_amount) hr (by rfl) (.cons (ce_ix hC hu (ce_var (i := 0) rfl (.inl rfl) nd_thing nc_thing) ce_int (fun _ _ => rfl)) (nostar rfl) .nil)))))
    css_nil)))
theorem wk_deal_of {A : Ads} (t : Txt B K mg) {n : Nat} (c : All w K mg base B A n) (F : Funs K mg A) (cl : Clss K B A) : FnOk PP w K mg base (L2.CX PP w) (2 * (n + 1)) A.a_deal_of A.d_deal_of ["name", "legs"] (spOf (GG B) K (n + 1) 3) :=
  def_ok F.u_deal_of sc_deal_of rfl fun cdv Ar outer s H E hr => by
  have hC := wpCall_mono (GG B).T (GG B).F n
  have hu := hu_of' hr
  have hp : PassesOwn (model (cxOf (L2.CX PP w) PP w K mg base ["name", "legs", "leg"] "deal_of" (defScope (top 25)) A.a_deal_of cdv Ar outer s H E).prog (cxOf (L2.CX PP w) PP w K mg base ["name", "legs", "leg"] "deal_of" (defScope (top 25)) A.a_deal_of cdv Ar outer s H E).w) (cxOf (L2.CX PP w) PP w K mg base ["name", "legs", "leg"] "deal_of" (defScope (top 25)) A.a_deal_of cdv Ar outer s H E).A (cxOf (L2.CX PP w) PP w K mg base ["name", "legs", "leg"] "deal_of" (defScope (top 25)) A.a_deal_of cdv Ar outer s H E).env (cxOf (L2.CX PP w) PP w K mg base ["name", "legs", "leg"] "deal_of" (defScope (top 25)) A.a_deal_of cdv Ar outer s H E).xe := passes_of rfl
  exact (css_cons (cs_ite hC (ct_not hC (ct_val (ce_call (c.f_is_name) hr (by rfl) (.cons (ce_var (i := 0) rfl (.inl rfl) nd_name nc_name) (nostar rfl) .nil)) (fun _ => rfl) hC)) (css_cons (cs_raise rfl t.x_NoName (by rfl) nd_NoName)
    css_nil) css_nil)
    (css_cons (cs_ite hC (CW.ct (cw_or hC (ct_not hC (ct_val (ce_isi hC (pc := ⟨0, 0, 0, 0⟩) (cl := .ty .lst) (clok_ty (n := .lst)) (.ty _) (pe_bty (by rfl) t.n_list (by decide +kernel)) (ce_var (i := 1) rfl (.inl rfl) nd_legs nc_legs) (by rfl) t.n_isinstance) (fun _ => rfl) hC)) (cw_or1 (ct_not hC (ct_chain hC op_le op_le vk_le vk_le ce_int (ce_callB hC call_lenAll vk_len (.cons (ce_var (i := 1) rfl (.inl rfl) nd_legs nc_legs) (nostar rfl) .nil) (by rfl) t.n_len (by decide +kernel)) ce_int (by rfl)))))) (css_cons (cs_raise rfl t.x_NoLeg (by rfl) nd_NoLeg)
    css_nil) css_nil)
    (css_cons (cs_for1 (i := 2) hC hp rfl sc_deal_of.nd rfl (.inl rfl) (.inl rfl) (ci_seq hC (ce_var (i := 1) rfl (.inl rfl) nd_legs nc_legs)) (css_cons (cs_ite hC (ct_not hC (ct_val (ce_call (c.f_is_leg) hr (by rfl) (.cons (ce_var (i := 2) rfl (.inl rfl) nd_leg nc_leg) (nostar rfl) .nil)) (fun _ => rfl) hC)) (css_cons (cs_raise rfl t.x_NoLeg (by rfl) nd_NoLeg)
    css_nil) css_nil)
    css_nil))
    (css_cons (cs_ret hC (ce_tup hC (.cons (ce_var (i := 0) rfl (.inl rfl) nd_name nc_name) (nostar rfl) (.cons (ce_callTy hC call_tuple_of vk_tupOf (.cons (ce_var (i := 1) rfl (.inl rfl) nd_legs nc_legs) (nostar rfl) .nil) (by rfl) t.n_tuple (by decide +kernel)) (nostar rfl) .nil))))
    css_nil))))
theorem wk_name_in {A : Ads} (t : Txt B K mg) {n : Nat} (c : All w K mg base B A n) (F : Funs K mg A) (cl : Clss K B A) : FnOk PP w K mg base (L2.CX PP w) (2 * (n + 1)) A.a_name_in A.d_name_in ["word"] (spOf (GG B) K (n + 1) 4) :=
  def_ok F.u_name_in sc_name_in rfl fun cdv Ar outer s H E hr => by
  have hC := wpCall_mono (GG B).T (GG B).F n
  have hu := hu_of' hr
  have hp : PassesOwn (model (cxOf (L2.CX PP w) PP w K mg base ["word"] "name_in" (defScope (top 55)) A.a_name_in cdv Ar outer s H E).prog (cxOf (L2.CX PP w) PP w K mg base ["word"] "name_in" (defScope (top 55)) A.a_name_in cdv Ar outer s H E).w) (cxOf (L2.CX PP w) PP w K mg base ["word"] "name_in" (defScope (top 55)) A.a_name_in cdv Ar outer s H E).A (cxOf (L2.CX PP w) PP w K mg base ["word"] "name_in" (defScope (top 55)) A.a_name_in cdv Ar outer s H E).env (cxOf (L2.CX PP w) PP w K mg base ["word"] "name_in" (defScope (top 55)) A.a_name_in cdv Ar outer s H E).xe := passes_of rfl
  exact (css_cons (cs_ite hC (ct_not hC (ct_val (ce_call (c.f_is_name) hr (by rfl) (.cons (ce_var (i := 0) rfl (.inl rfl) nd_word nc_word) (nostar rfl) .nil)) (fun _ => rfl) hC)) (css_cons (cs_raise rfl t.x_NoRow (by rfl) nd_NoRow)
    css_nil) css_nil)
    (css_cons (cs_ret hC (ce_var (i := 0) rfl (.inl rfl) nd_word nc_word))
    css_nil))
theorem wk_number_in {A : Ads} (t : Txt B K mg) {n : Nat} (c : All w K mg base B A n) (F : Funs K mg A) (cl : Clss K B A) : FnOk PP w K mg base (L2.CX PP w) (2 * (n + 1)) A.a_number_in A.d_number_in ["word"] (spOf (GG B) K (n + 1) 5) :=
  def_ok F.u_number_in sc_number_in rfl fun cdv Ar outer s H E hr => by
  have hC := wpCall_mono (GG B).T (GG B).F n
  have hu := hu_of' hr
  have hp : PassesOwn (model (cxOf (L2.CX PP w) PP w K mg base ["word", "sign"] "number_in" (defScope (top 56)) A.a_number_in cdv Ar outer s H E).prog (cxOf (L2.CX PP w) PP w K mg base ["word", "sign"] "number_in" (defScope (top 56)) A.a_number_in cdv Ar outer s H E).w) (cxOf (L2.CX PP w) PP w K mg base ["word", "sign"] "number_in" (defScope (top 56)) A.a_number_in cdv Ar outer s H E).A (cxOf (L2.CX PP w) PP w K mg base ["word", "sign"] "number_in" (defScope (top 56)) A.a_number_in cdv Ar outer s H E).env (cxOf (L2.CX PP w) PP w K mg base ["word", "sign"] "number_in" (defScope (top 56)) A.a_number_in cdv Ar outer s H E).xe := passes_of rfl
  exact (css_cons (cs_ite hC (CW.ct (cw_or hC (ct_cmp hC (op_eqAll hu) vk_eq (ce_var (i := 0) rfl (.inl rfl) nd_word nc_word) (ce_str s1_e s1_b) (by rfl)) (cw_or1 (ct_cmp hC op_gt vk_gt (ce_callB hC call_lenAll vk_len (.cons (ce_var (i := 0) rfl (.inl rfl) nd_word nc_word) (nostar rfl) .nil) (by rfl) t.n_len (by decide +kernel)) ce_int (by rfl))))) (css_cons (cs_raise rfl t.x_NoRow (by rfl) nd_NoRow)
    css_nil) css_nil)
    (css_cons (cs_for1 (i := 1) hC hp rfl sc_number_in.nd rfl (.inl rfl) (.inl rfl) (ci_seq hC (ce_var (i := 0) rfl (.inl rfl) nd_word nc_word)) (css_cons (cs_ite hC (ct_cmp hC (op_ninAll hu) vk_nin (ce_var (i := 1) rfl (.inl rfl) nd_sign nc_sign) (ce_glob (g := 1) (by rfl) t.g_FIGURES (fun _ _ => rd_FIGURES) rfl nd_FIGURES) (by rfl)) (css_cons (cs_raise rfl t.x_NoRow (by rfl) nd_NoRow)
    css_nil) css_nil)
    css_nil))
    (css_cons (cs_ite hC (CW.ct (cw_and hC (ct_cmp hC (op_eqAll hu) vk_eq (ce_ix hC hu (ce_var (i := 0) rfl (.inl rfl) nd_word nc_word) ce_int (fun _ _ => rfl)) (ce_str s0_e s0_b) (by rfl)) (cw_and1 (ct_cmp hC op_gt vk_gt (ce_callB hC call_lenAll vk_len (.cons (ce_var (i := 0) rfl (.inl rfl) nd_word nc_word) (nostar rfl) .nil) (by rfl) t.n_len (by decide +kernel)) ce_int (by rfl))))) (css_cons (cs_raise rfl t.x_NoRow (by rfl) nd_NoRow)
    css_nil) css_nil)
    (css_cons (cs_ret hC (ce_callTy hC call_intAll vk_int (.cons (ce_var (i := 0) rfl (.inl rfl) nd_word nc_word) (nostar rfl) .nil) (by rfl) t.n_int (by decide +kernel)))
    css_nil))))
theorem wk_amount_in {A : Ads} (t : Txt B K mg) {n : Nat} (c : All w K mg base B A n) (F : Funs K mg A) (cl : Clss K B A) : FnOk PP w K mg base (L2.CX PP w) (2 * (n + 1)) A.a_amount_in A.d_amount_in ["word"] (spOf (GG B) K (n + 1) 6) :=
  def_ok F.u_amount_in sc_amount_in rfl fun cdv Ar outer s H E hr => by
  have hC := wpCall_mono (GG B).T (GG B).F n
  have hu := hu_of' hr
  have hp : PassesOwn (model (cxOf (L2.CX PP w) PP w K mg base ["word", "number"] "amount_in" (defScope (top 57)) A.a_amount_in cdv Ar outer s H E).prog (cxOf (L2.CX PP w) PP w K mg base ["word", "number"] "amount_in" (defScope (top 57)) A.a_amount_in cdv Ar outer s H E).w) (cxOf (L2.CX PP w) PP w K mg base ["word", "number"] "amount_in" (defScope (top 57)) A.a_amount_in cdv Ar outer s H E).A (cxOf (L2.CX PP w) PP w K mg base ["word", "number"] "amount_in" (defScope (top 57)) A.a_amount_in cdv Ar outer s H E).env (cxOf (L2.CX PP w) PP w K mg base ["word", "number"] "amount_in" (defScope (top 57)) A.a_amount_in cdv Ar outer s H E).xe := passes_of rfl
  exact (css_cons (cs_asg (i := 1) hC sc_amount_in.nd rfl (.inl rfl) (.inl rfl) (ce_call (c.f_number_in) hr (by rfl) (.cons (ce_var (i := 0) rfl (.inl rfl) nd_word nc_word) (nostar rfl) .nil)))
    (css_cons (cs_ite hC (ct_cmp hC (op_eqAll hu) vk_eq (ce_var (i := 1) rfl (.inl rfl) nd_number nc_number) ce_int (by rfl)) (css_cons (cs_raise rfl t.x_NoRow (by rfl) nd_NoRow)
    css_nil) css_nil)
    (css_cons (cs_ret hC (ce_var (i := 1) rfl (.inl rfl) nd_number nc_number))
    css_nil)))
theorem wk_leg_in {A : Ads} (t : Txt B K mg) {n : Nat} (c : All w K mg base B A n) (F : Funs K mg A) (cl : Clss K B A) : FnOk PP w K mg base (L2.CX PP w) (2 * (n + 1)) A.a_leg_in A.d_leg_in ["text"] (spOf (GG B) K (n + 1) 7) :=
  def_ok F.u_leg_in sc_leg_in rfl fun cdv Ar outer s H E hr => by
  have hC := wpCall_mono (GG B).T (GG B).F n
  have hu := hu_of' hr
  have hp : PassesOwn (model (cxOf (L2.CX PP w) PP w K mg base ["text", "words", "giver", "taker"] "leg_in" (defScope (top 58)) A.a_leg_in cdv Ar outer s H E).prog (cxOf (L2.CX PP w) PP w K mg base ["text", "words", "giver", "taker"] "leg_in" (defScope (top 58)) A.a_leg_in cdv Ar outer s H E).w) (cxOf (L2.CX PP w) PP w K mg base ["text", "words", "giver", "taker"] "leg_in" (defScope (top 58)) A.a_leg_in cdv Ar outer s H E).A (cxOf (L2.CX PP w) PP w K mg base ["text", "words", "giver", "taker"] "leg_in" (defScope (top 58)) A.a_leg_in cdv Ar outer s H E).env (cxOf (L2.CX PP w) PP w K mg base ["text", "words", "giver", "taker"] "leg_in" (defScope (top 58)) A.a_leg_in cdv Ar outer s H E).xe := passes_of rfl
  exact (css_cons (cs_asg (i := 1) hC sc_leg_in.nd rfl (.inl rfl) (.inl rfl) (ce_bm hC PySem.F.plainAttrs_str PySem.F.slot_str_split PySem.F.type_str_split mt_split vm_split ty_split (ce_var (i := 0) rfl (.inl rfl) nd_text nc_text) (.cons (ce_str s2_e s2_b) (nostar rfl) .nil)))
    (css_cons (cs_ite hC (ct_cmp hC (op_neAll hu) vk_ne (ce_callB hC call_lenAll vk_len (.cons (ce_var (i := 1) rfl (.inl rfl) nd_words nc_words) (nostar rfl) .nil) (by rfl) t.n_len (by decide +kernel)) ce_int (by rfl)) (css_cons (cs_raise rfl t.x_NoRow (by rfl) nd_NoRow)
    css_nil) css_nil)
    (css_cons (cs_asg (i := 2) hC sc_leg_in.nd rfl (.inl rfl) (.inl rfl) (ce_call (c.f_name_in) hr (by rfl) (.cons (ce_ix hC hu (ce_var (i := 1) rfl (.inl rfl) nd_words nc_words) ce_int (fun _ _ => rfl)) (nostar rfl) .nil)))
    (css_cons (cs_asg (i := 3) hC sc_leg_in.nd rfl (.inl rfl) (.inl rfl) (ce_call (c.f_name_in) hr (by rfl) (.cons (ce_ix hC hu (ce_var (i := 1) rfl (.inl rfl) nd_words nc_words) ce_int (fun _ _ => rfl)) (nostar rfl) .nil)))
    (css_cons (cs_ite hC (ct_cmp hC (op_eqAll hu) vk_eq (ce_var (i := 2) rfl (.inl rfl) nd_giver nc_giver) (ce_var (i := 3) rfl (.inl rfl) nd_taker nc_taker) (by rfl)) (css_cons (cs_raise rfl t.x_NoRow (by rfl) nd_NoRow)
    css_nil) css_nil)
    (css_cons (cs_ret hC (ce_tup hC (.cons (ce_var (i := 2) rfl (.inl rfl) nd_giver nc_giver) (nostar rfl) (.cons (ce_var (i := 3) rfl (.inl rfl) nd_taker nc_taker) (nostar rfl) (.cons (ce_call (c.f_name_in) hr (by rfl) (.cons (ce_ix hC hu (ce_var (i := 1) rfl (.inl rfl) nd_words nc_words) ce_int (fun _ _ => rfl)) (nostar rfl) .nil)) (nostar rfl) (.cons (ce_call (c.f_amount_in) hr (by rfl) (.cons (ce_ix hC hu (ce_var (i := 1) rfl (.inl rfl) nd_words nc_words) ce_int (fun _ _ => rfl)) (nostar rfl) .nil)) (nostar rfl) .nil))))))
    css_nil))))))
theorem wk_offer_in {A : Ads} (t : Txt B K mg) {n : Nat} (c : All w K mg base B A n) (F : Funs K mg A) (cl : Clss K B A) : FnOk PP w K mg base (L2.CX PP w) (2 * (n + 1)) A.a_offer_in A.d_offer_in ["text"] (spOf (GG B) K (n + 1) 8) :=
  def_ok F.u_offer_in sc_offer_in rfl fun cdv Ar outer s H E hr => by
  have hC := wpCall_mono (GG B).T (GG B).F n
  have hu := hu_of' hr
  have hp : PassesOwn (model (cxOf (L2.CX PP w) PP w K mg base ["text", "parts", "name", "legs", "part"] "offer_in" (defScope (top 59)) A.a_offer_in cdv Ar outer s H E).prog (cxOf (L2.CX PP w) PP w K mg base ["text", "parts", "name", "legs", "part"] "offer_in" (defScope (top 59)) A.a_offer_in cdv Ar outer s H E).w) (cxOf (L2.CX PP w) PP w K mg base ["text", "parts", "name", "legs", "part"] "offer_in" (defScope (top 59)) A.a_offer_in cdv Ar outer s H E).A (cxOf (L2.CX PP w) PP w K mg base ["text", "parts", "name", "legs", "part"] "offer_in" (defScope (top 59)) A.a_offer_in cdv Ar outer s H E).env (cxOf (L2.CX PP w) PP w K mg base ["text", "parts", "name", "legs", "part"] "offer_in" (defScope (top 59)) A.a_offer_in cdv Ar outer s H E).xe := passes_of rfl
  exact (css_cons (cs_asg (i := 1) hC sc_offer_in.nd rfl (.inl rfl) (.inl rfl) (ce_bm hC PySem.F.plainAttrs_str PySem.F.slot_str_partition PySem.F.type_str_partition mt_partition vm_partition ty_partition (ce_var (i := 0) rfl (.inl rfl) nd_text nc_text) (.cons (ce_str s2_e s2_b) (nostar rfl) .nil)))
    (css_cons (cs_asg (i := 2) hC sc_offer_in.nd rfl (.inl rfl) (.inl rfl) (ce_call (c.f_name_in) hr (by rfl) (.cons (ce_ix hC hu (ce_var (i := 1) rfl (.inl rfl) nd_parts nc_parts) ce_int (fun _ _ => rfl)) (nostar rfl) .nil)))
    (css_cons (cs_asgLcX hC (CompRX.mk (i := 4) rfl rfl rfl sc_offer_in.nd (ci_seq hC (ce_bm hC PySem.F.plainAttrs_str PySem.F.slot_str_split PySem.F.type_str_split mt_split vm_split ty_split (ce_ix hC hu (ce_var (i := 1) rfl (.inl rfl) nd_parts nc_parts) ce_int (fun _ _ => rfl)) (.cons (ce_str s3_e s3_b) (nostar rfl) .nil))) (show BlkOk ["text", "parts", "name", "legs", "part"] (defScope (top 59)) _ _ from ⟨rfl, by decide +kernel, by decide +kernel, by decide +kernel, by decide +kernel⟩) (fun _ _ _ _ _ => pg_name sc_offer_in.nd rfl (.inl rfl)) (fun _ _ _ _ _ _ => (ce_call (c.f_leg_in) hr (by rfl) (.cons (ce_var (i := 4) rfl (.inl rfl) nd_part nc_part) (nostar rfl) .nil))) (fun _ => rfl)) rfl rfl (sw_true rfl rfl rfl (by decide +kernel)))
    (css_cons (cs_ite hC (ct_cmp hC op_gt vk_gt (ce_callB hC call_lenAll vk_len (.cons (ce_var (i := 3) rfl (.inl rfl) nd_legs nc_legs) (nostar rfl) .nil) (by rfl) t.n_len (by decide +kernel)) ce_int (by rfl)) (css_cons (cs_raise rfl t.x_NoRow (by rfl) nd_NoRow)
    css_nil) css_nil)
    (css_cons (cs_ret hC (ce_make c.f_Offer___init__.ok c.f_Offer___init__.bd cl.mk_Offer rfl rfl hr (by rfl) t.m_Offer (.cons (ce_call (c.f_deal_of) hr (by rfl) (.cons (ce_var (i := 2) rfl (.inl rfl) nd_name nc_name) (nostar rfl) (.cons (ce_var (i := 3) rfl (.inl rfl) nd_legs nc_legs) (nostar rfl) .nil))) (nostar rfl) .nil) nd_Offer))
    css_nil)))))
theorem wk_shelf_deed {A : Ads} (t : Txt B K mg) {n : Nat} (c : All w K mg base B A n) (F : Funs K mg A) (cl : Clss K B A) : FnOk PP w K mg base (L2.CX PP w) (2 * (n + 1)) A.a_shelf_deed A.d_shelf_deed ["words"] (spOf (GG B) K (n + 1) 9) :=
  def_ok F.u_shelf_deed sc_shelf_deed rfl fun cdv Ar outer s H E hr => by
  have hC := wpCall_mono (GG B).T (GG B).F n
  have hu := hu_of' hr
  have hp : PassesOwn (model (cxOf (L2.CX PP w) PP w K mg base ["words", "shelf"] "shelf_deed" (defScope (top 60)) A.a_shelf_deed cdv Ar outer s H E).prog (cxOf (L2.CX PP w) PP w K mg base ["words", "shelf"] "shelf_deed" (defScope (top 60)) A.a_shelf_deed cdv Ar outer s H E).w) (cxOf (L2.CX PP w) PP w K mg base ["words", "shelf"] "shelf_deed" (defScope (top 60)) A.a_shelf_deed cdv Ar outer s H E).A (cxOf (L2.CX PP w) PP w K mg base ["words", "shelf"] "shelf_deed" (defScope (top 60)) A.a_shelf_deed cdv Ar outer s H E).env (cxOf (L2.CX PP w) PP w K mg base ["words", "shelf"] "shelf_deed" (defScope (top 60)) A.a_shelf_deed cdv Ar outer s H E).xe := passes_of rfl
  exact (css_cons (cs_asg (i := 1) hC sc_shelf_deed.nd rfl (.inl rfl) (.inl rfl) (ce_tup hC (.cons (ce_call (c.f_name_in) hr (by rfl) (.cons (ce_ix hC hu (ce_var (i := 0) rfl (.inl rfl) nd_words nc_words) ce_int (fun _ _ => rfl)) (nostar rfl) .nil)) (nostar rfl) (.cons (ce_call (c.f_name_in) hr (by rfl) (.cons (ce_ix hC hu (ce_var (i := 0) rfl (.inl rfl) nd_words nc_words) ce_int (fun _ _ => rfl)) (nostar rfl) .nil)) (nostar rfl) .nil))))
    (css_cons (cs_ite hC (ct_cmp hC (op_eqAll hu) vk_eq (ce_ix hC hu (ce_var (i := 0) rfl (.inl rfl) nd_words nc_words) ce_int (fun _ _ => rfl)) (ce_str s6_e s6_b) (by rfl)) (css_cons (cs_ret hC (ce_make c.f_Lay___init__.ok c.f_Lay___init__.bd cl.mk_Lay rfl rfl hr (by rfl) t.m_Lay (.cons (ce_var (i := 1) rfl (.inl rfl) nd_shelf nc_shelf) (nostar rfl) (.cons (ce_call (c.f_amount_in) hr (by rfl) (.cons (ce_ix hC hu (ce_var (i := 0) rfl (.inl rfl) nd_words nc_words) ce_int (fun _ _ => rfl)) (nostar rfl) .nil)) (nostar rfl) .nil)) nd_Lay))
    css_nil) css_nil)
    (css_cons (cs_ite hC (ct_cmp hC (op_eqAll hu) vk_eq (ce_ix hC hu (ce_var (i := 0) rfl (.inl rfl) nd_words nc_words) ce_int (fun _ _ => rfl)) (ce_str s5_e s5_b) (by rfl)) (css_cons (cs_ret hC (ce_make c.f_Take___init__.ok c.f_Take___init__.bd cl.mk_Take rfl rfl hr (by rfl) t.m_Take (.cons (ce_var (i := 1) rfl (.inl rfl) nd_shelf nc_shelf) (nostar rfl) (.cons (ce_call (c.f_amount_in) hr (by rfl) (.cons (ce_ix hC hu (ce_var (i := 0) rfl (.inl rfl) nd_words nc_words) ce_int (fun _ _ => rfl)) (nostar rfl) .nil)) (nostar rfl) .nil)) nd_Take))
    css_nil) css_nil)
    (css_cons (cs_ite hC (ct_cmp hC (op_eqAll hu) vk_eq (ce_ix hC hu (ce_var (i := 0) rfl (.inl rfl) nd_words nc_words) ce_int (fun _ _ => rfl)) (ce_str s4_e s4_b) (by rfl)) (css_cons (cs_ret hC (ce_make c.f_Line___init__.ok c.f_Line___init__.bd cl.mk_Line rfl rfl hr (by rfl) t.m_Line (.cons (ce_var (i := 1) rfl (.inl rfl) nd_shelf nc_shelf) (nostar rfl) (.cons (ce_call (c.f_number_in) hr (by rfl) (.cons (ce_ix hC hu (ce_var (i := 0) rfl (.inl rfl) nd_words nc_words) ce_int (fun _ _ => rfl)) (nostar rfl) .nil)) (nostar rfl) .nil)) nd_Line))
    css_nil) css_nil)
    (css_cons (cs_raise rfl t.x_NoRow (by rfl) nd_NoRow)
    css_nil)))))
theorem wk_read {A : Ads} (t : Txt B K mg) {n : Nat} (c : All w K mg base B A n) (F : Funs K mg A) (cl : Clss K B A) : FnOk PP w K mg base (L2.CX PP w) (2 * (n + 1)) A.a_read A.d_read ["row"] (spOf (GG B) K (n + 1) 10) :=
  def_ok F.u_read sc_read rfl fun cdv Ar outer s H E hr => by
  have hC := wpCall_mono (GG B).T (GG B).F n
  have hu := hu_of' hr
  have hp : PassesOwn (model (cxOf (L2.CX PP w) PP w K mg base ["row", "words", "shelf"] "read" (defScope (top 61)) A.a_read cdv Ar outer s H E).prog (cxOf (L2.CX PP w) PP w K mg base ["row", "words", "shelf"] "read" (defScope (top 61)) A.a_read cdv Ar outer s H E).w) (cxOf (L2.CX PP w) PP w K mg base ["row", "words", "shelf"] "read" (defScope (top 61)) A.a_read cdv Ar outer s H E).A (cxOf (L2.CX PP w) PP w K mg base ["row", "words", "shelf"] "read" (defScope (top 61)) A.a_read cdv Ar outer s H E).env (cxOf (L2.CX PP w) PP w K mg base ["row", "words", "shelf"] "read" (defScope (top 61)) A.a_read cdv Ar outer s H E).xe := passes_of rfl
  exact (css_cons (cs_ite hC (ct_not hC (ct_val (ce_isi hC (pc := ⟨0, 0, 0, 0⟩) (cl := .ty .str) (clok_ty (n := .str)) (.ty _) (pe_bty (by rfl) t.n_str (by decide +kernel)) (ce_var (i := 0) rfl (.inl rfl) nd_row nc_row) (by rfl) t.n_isinstance) (fun _ => rfl) hC)) (css_cons (cs_raise rfl t.x_NoRow (by rfl) nd_NoRow)
    css_nil) css_nil)
    (css_cons (cs_ite hC (ct_cmp hC (op_eqAll hu) vk_eq (ce_cutH hC (ce_var (i := 0) rfl (.inl rfl) nd_row nc_row) ce_int) (ce_str s10_e s10_b) (by rfl)) (css_cons (cs_ret hC (ce_call (c.f_offer_in) hr (by rfl) (.cons (ce_cutL hC (ce_var (i := 0) rfl (.inl rfl) nd_row nc_row) ce_int) (nostar rfl) .nil)))
    css_nil) css_nil)
    (css_cons (cs_asg (i := 1) hC sc_read.nd rfl (.inl rfl) (.inl rfl) (ce_bm hC PySem.F.plainAttrs_str PySem.F.slot_str_split PySem.F.type_str_split mt_split vm_split ty_split (ce_var (i := 0) rfl (.inl rfl) nd_row nc_row) (.cons (ce_str s2_e s2_b) (nostar rfl) .nil)))
    (css_cons (cs_ite hC (ct_cmp hC (op_eqAll hu) vk_eq (ce_var (i := 1) rfl (.inl rfl) nd_words nc_words) (ce_lst hC (.cons (ce_str s9_e s9_b) (nostar rfl) .nil)) (by rfl)) (css_cons (cs_ret hC (ce_make0 cl.mk_Bell rfl rfl (by rfl) t.m_Bell nd_Bell))
    css_nil) css_nil)
    (css_cons (cs_ite hC (CW.ct (cw_and hC (ct_cmp hC (op_eqAll hu) vk_eq (ce_ix hC hu (ce_var (i := 1) rfl (.inl rfl) nd_words nc_words) ce_int (fun _ _ => rfl)) (ce_str s8_e s8_b) (by rfl)) (cw_and1 (ct_cmp hC (op_eqAll hu) vk_eq (ce_callB hC call_lenAll vk_len (.cons (ce_var (i := 1) rfl (.inl rfl) nd_words nc_words) (nostar rfl) .nil) (by rfl) t.n_len (by decide +kernel)) ce_int (by rfl))))) (css_cons (cs_ret hC (ce_make c.f_Off___init__.ok c.f_Off___init__.bd cl.mk_Off rfl rfl hr (by rfl) t.m_Off (.cons (ce_call (c.f_name_in) hr (by rfl) (.cons (ce_ix hC hu (ce_var (i := 1) rfl (.inl rfl) nd_words nc_words) ce_int (fun _ _ => rfl)) (nostar rfl) .nil)) (nostar rfl) .nil) nd_Off))
    css_nil) css_nil)
    (css_cons (cs_ite hC (CW.ct (cw_and hC (ct_cmp hC (op_eqAll hu) vk_eq (ce_ix hC hu (ce_var (i := 1) rfl (.inl rfl) nd_words nc_words) ce_int (fun _ _ => rfl)) (ce_str s7_e s7_b) (by rfl)) (cw_and1 (ct_cmp hC (op_eqAll hu) vk_eq (ce_callB hC call_lenAll vk_len (.cons (ce_var (i := 1) rfl (.inl rfl) nd_words nc_words) (nostar rfl) .nil) (by rfl) t.n_len (by decide +kernel)) ce_int (by rfl))))) (css_cons (cs_asg (i := 2) hC sc_read.nd rfl (.inl rfl) (.inl rfl) (ce_tup hC (.cons (ce_call (c.f_name_in) hr (by rfl) (.cons (ce_ix hC hu (ce_var (i := 1) rfl (.inl rfl) nd_words nc_words) ce_int (fun _ _ => rfl)) (nostar rfl) .nil)) (nostar rfl) (.cons (ce_call (c.f_name_in) hr (by rfl) (.cons (ce_ix hC hu (ce_var (i := 1) rfl (.inl rfl) nd_words nc_words) ce_int (fun _ _ => rfl)) (nostar rfl) .nil)) (nostar rfl) .nil))))
    (css_cons (cs_ret hC (ce_make c.f_Put___init__.ok c.f_Put___init__.bd cl.mk_Put rfl rfl hr (by rfl) t.m_Put (.cons (ce_var (i := 2) rfl (.inl rfl) nd_shelf nc_shelf) (nostar rfl) (.cons (ce_call (c.f_name_in) hr (by rfl) (.cons (ce_ix hC hu (ce_var (i := 1) rfl (.inl rfl) nd_words nc_words) ce_int (fun _ _ => rfl)) (nostar rfl) .nil)) (nostar rfl) (.cons (ce_call (c.f_number_in) hr (by rfl) (.cons (ce_ix hC hu (ce_var (i := 1) rfl (.inl rfl) nd_words nc_words) ce_int (fun _ _ => rfl)) (nostar rfl) .nil)) (nostar rfl) .nil))) nd_Put))
    css_nil)) css_nil)
    (css_cons (cs_ite hC (ct_cmp hC (op_eqAll hu) vk_eq (ce_callB hC call_lenAll vk_len (.cons (ce_var (i := 1) rfl (.inl rfl) nd_words nc_words) (nostar rfl) .nil) (by rfl) t.n_len (by decide +kernel)) ce_int (by rfl)) (css_cons (cs_ret hC (ce_call (c.f_shelf_deed) hr (by rfl) (.cons (ce_var (i := 1) rfl (.inl rfl) nd_words nc_words) (nostar rfl) .nil)))
    css_nil) css_nil)
    (css_cons (cs_raise rfl t.x_NoRow (by rfl) nd_NoRow)
    css_nil))))))))
theorem wk__law_cell_at {A : Ads} (t : Txt B K mg) {n : Nat} (c : All w K mg base B A n) (F : Funs K mg A) (cl : Clss K B A) : FnOk PP w K mg base (L2.CX PP w) (2 * (n + 1)) A.a__law_cell_at A.d__law_cell_at ["script", "k"] (spOf (GG B) K (n + 1) 11) :=
  def_ok F.u__law_cell_at sc__law_cell_at rfl fun cdv Ar outer s H E hr => by
  have hC := wpCall_mono (GG B).T (GG B).F n
  have hu := hu_of' hr
  have hp : PassesOwn (model (cxOf (L2.CX PP w) PP w K mg base ["script", "k"] "_law_cell_at" (defScope (top 63)) A.a__law_cell_at cdv Ar outer s H E).prog (cxOf (L2.CX PP w) PP w K mg base ["script", "k"] "_law_cell_at" (defScope (top 63)) A.a__law_cell_at cdv Ar outer s H E).w) (cxOf (L2.CX PP w) PP w K mg base ["script", "k"] "_law_cell_at" (defScope (top 63)) A.a__law_cell_at cdv Ar outer s H E).A (cxOf (L2.CX PP w) PP w K mg base ["script", "k"] "_law_cell_at" (defScope (top 63)) A.a__law_cell_at cdv Ar outer s H E).env (cxOf (L2.CX PP w) PP w K mg base ["script", "k"] "_law_cell_at" (defScope (top 63)) A.a__law_cell_at cdv Ar outer s H E).xe := passes_of rfl
  exact (css_cons (cs_ite hC (ct_cmp hC (op_ltAll hu) vk_lt (ce_var (i := 1) rfl (.inl rfl) nd_k nc_k) (ce_callB hC call_lenAll vk_len (.cons (ce_var (i := 0) rfl (.inl rfl) nd_script nc_script) (nostar rfl) .nil) (by rfl) t.n_len (by decide +kernel)) (by rfl)) (css_cons (cs_ret hC (ce_ix hC hu (ce_var (i := 0) rfl (.inl rfl) nd_script nc_script) (ce_var (i := 1) rfl (.inl rfl) nd_k nc_k) (fun _ _ => rfl)))
    css_nil) css_nil)
    (css_cons (cs_ret hC ce_int)
    css_nil))
theorem wk__law_name {A : Ads} (t : Txt B K mg) {n : Nat} (c : All w K mg base B A n) (F : Funs K mg A) (cl : Clss K B A) : FnOk PP w K mg base (L2.CX PP w) (2 * (n + 1)) A.a__law_name A.d__law_name ["cell"] (spOf (GG B) K (n + 1) 12) :=
  def_ok F.u__law_name sc__law_name rfl fun cdv Ar outer s H E hr => by
  have hC := wpCall_mono (GG B).T (GG B).F n
  have hu := hu_of' hr
  have hp : PassesOwn (model (cxOf (L2.CX PP w) PP w K mg base ["cell", "some", "number", "text", "k"] "_law_name" (defScope (top 64)) A.a__law_name cdv Ar outer s H E).prog (cxOf (L2.CX PP w) PP w K mg base ["cell", "some", "number", "text", "k"] "_law_name" (defScope (top 64)) A.a__law_name cdv Ar outer s H E).w) (cxOf (L2.CX PP w) PP w K mg base ["cell", "some", "number", "text", "k"] "_law_name" (defScope (top 64)) A.a__law_name cdv Ar outer s H E).A (cxOf (L2.CX PP w) PP w K mg base ["cell", "some", "number", "text", "k"] "_law_name" (defScope (top 64)) A.a__law_name cdv Ar outer s H E).env (cxOf (L2.CX PP w) PP w K mg base ["cell", "some", "number", "text", "k"] "_law_name" (defScope (top 64)) A.a__law_name cdv Ar outer s H E).xe := passes_of rfl
  exact (css_cons (cs_asg (i := 1) hC sc__law_name.nd rfl (.inl rfl) (.inl rfl) (ce_lst hC (.cons (ce_str s6_e s6_b) (nostar rfl) (.cons (ce_str s5_e s5_b) (nostar rfl) (.cons (ce_str s4_e s4_b) (nostar rfl) (.cons (ce_str s18_e s18_b) (nostar rfl) (.cons (ce_str s8_e s8_b) (nostar rfl) (.cons (ce_str s7_e s7_b) (nostar rfl) (.cons (ce_str s9_e s9_b) (nostar rfl) (.cons (ce_str s17_e s17_b) (nostar rfl) (.cons (ce_str s16_e s16_b) (nostar rfl) (.cons (ce_str s15_e s15_b) (nostar rfl) (.cons (ce_str s14_e s14_b) (nostar rfl) (.cons (ce_str s13_e s13_b) (nostar rfl) (.cons (ce_str s12_e s12_b) (nostar rfl) .nil)))))))))))))))
    (css_cons (cs_ite hC (ct_cmp hC (op_eqAll hu) vk_eq (ce_bin hC op_mod vk_mod (ce_var (i := 0) rfl (.inl rfl) nd_cell nc_cell) ce_int) ce_int (by rfl)) (css_cons (cs_ret hC (ce_ix hC hu (ce_var (i := 1) rfl (.inl rfl) nd_some nc_some) (ce_bin hC op_mod vk_mod (ce_bin hC op_fdiv vk_fdiv (ce_var (i := 0) rfl (.inl rfl) nd_cell nc_cell) ce_int) ce_int) (fun _ _ => rfl)))
    css_nil) css_nil)
    (css_cons (cs_asg (i := 2) hC sc__law_name.nd rfl (.inl rfl) (.inl rfl) (ce_bin hC op_mod vk_mod (ce_var (i := 0) rfl (.inl rfl) nd_cell nc_cell) ce_int))
    (css_cons (cs_asg (i := 3) hC sc__law_name.nd rfl (.inl rfl) (.inl rfl) (ce_str s1_e s1_b))
    (css_cons (cs_for1 (i := 4) hC hp rfl sc__law_name.nd rfl (.inl rfl) (.inl rfl) (ci_rng1 hC (by rfl) t.n_range (ce_bin hC op_addAll vk_add ce_int (ce_bin hC op_mod vk_mod (ce_bin hC op_fdiv vk_fdiv (ce_var (i := 2) rfl (.inl rfl) nd_number nc_number) ce_int) ce_int))) (css_cons (cs_asg (i := 2) hC sc__law_name.nd rfl (.inl rfl) (.inl rfl) (ce_bin hC op_mod vk_mod (ce_bin hC op_addAll vk_add (ce_bin hC op_addAll vk_add (ce_bin hC op_addAll vk_add (ce_bin hC op_mulAll vk_mul (ce_var (i := 2) rfl (.inl rfl) nd_number nc_number) (ce_var (i := 2) rfl (.inl rfl) nd_number nc_number)) (ce_bin hC op_mulAll vk_mul ce_int (ce_var (i := 2) rfl (.inl rfl) nd_number nc_number))) (ce_var (i := 4) rfl (.inl rfl) nd_k nc_k)) ce_int) ce_int))
    (css_cons (cs_asg (i := 3) hC sc__law_name.nd rfl (.inl rfl) (.inl rfl) (ce_bin hC op_addAll vk_add (ce_var (i := 3) rfl (.inl rfl) nd_text nc_text) (ce_ix hC hu (ce_str s11_e s11_b) (ce_bin hC op_mod vk_mod (ce_bin hC op_fdiv vk_fdiv (ce_var (i := 2) rfl (.inl rfl) nd_number nc_number) ce_int) ce_int) (fun _ _ => rfl))))
    css_nil)))
    (css_cons (cs_ret hC (ce_var (i := 3) rfl (.inl rfl) nd_text nc_text))
    css_nil))))))
theorem wk__law_amount {A : Ads} (t : Txt B K mg) {n : Nat} (c : All w K mg base B A n) (F : Funs K mg A) (cl : Clss K B A) : FnOk PP w K mg base (L2.CX PP w) (2 * (n + 1)) A.a__law_amount A.d__law_amount ["cell"] (spOf (GG B) K (n + 1) 13) :=
  def_ok F.u__law_amount sc__law_amount rfl fun cdv Ar outer s H E hr => by
  have hC := wpCall_mono (GG B).T (GG B).F n
  have hu := hu_of' hr
  have hp : PassesOwn (model (cxOf (L2.CX PP w) PP w K mg base ["cell"] "_law_amount" (defScope (top 65)) A.a__law_amount cdv Ar outer s H E).prog (cxOf (L2.CX PP w) PP w K mg base ["cell"] "_law_amount" (defScope (top 65)) A.a__law_amount cdv Ar outer s H E).w) (cxOf (L2.CX PP w) PP w K mg base ["cell"] "_law_amount" (defScope (top 65)) A.a__law_amount cdv Ar outer s H E).A (cxOf (L2.CX PP w) PP w K mg base ["cell"] "_law_amount" (defScope (top 65)) A.a__law_amount cdv Ar outer s H E).env (cxOf (L2.CX PP w) PP w K mg base ["cell"] "_law_amount" (defScope (top 65)) A.a__law_amount cdv Ar outer s H E).xe := passes_of rfl
  exact (css_cons (cs_ite hC (ct_cmp hC (op_eqAll hu) vk_eq (ce_bin hC op_mod vk_mod (ce_var (i := 0) rfl (.inl rfl) nd_cell nc_cell) ce_int) ce_int (by rfl)) (css_cons (cs_ret hC (ce_bin hC op_addAll vk_add ce_int (ce_bin hC op_mod vk_mod (ce_bin hC op_fdiv vk_fdiv (ce_var (i := 0) rfl (.inl rfl) nd_cell nc_cell) ce_int) ce_int)))
    css_nil) css_nil)
    (css_cons (cs_ite hC (ct_cmp hC (op_eqAll hu) vk_eq (ce_bin hC op_mod vk_mod (ce_var (i := 0) rfl (.inl rfl) nd_cell nc_cell) ce_int) ce_int (by rfl)) (css_cons (cs_ret hC (ce_bin hC op_sub vk_sub (ce_bin hC op_sub vk_sub (ce_bin hC op_pow vk_pow ce_int ce_int) ce_int) (ce_bin hC op_mod vk_mod (ce_bin hC op_fdiv vk_fdiv (ce_var (i := 0) rfl (.inl rfl) nd_cell nc_cell) ce_int) ce_int)))
    css_nil) css_nil)
    (css_cons (cs_ret hC (ce_bin hC op_addAll vk_add ce_int (ce_bin hC op_mod vk_mod (ce_bin hC op_fdiv vk_fdiv (ce_var (i := 0) rfl (.inl rfl) nd_cell nc_cell) ce_int) (ce_bin hC op_sub vk_sub (ce_bin hC op_pow vk_pow ce_int ce_int) ce_int))))
    css_nil)))
theorem wk__law_leg {A : Ads} (t : Txt B K mg) {n : Nat} (c : All w K mg base B A n) (F : Funs K mg A) (cl : Clss K B A) : FnOk PP w K mg base (L2.CX PP w) (2 * (n + 1)) A.a__law_leg A.d__law_leg ["cell"] (spOf (GG B) K (n + 1) 14) :=
  def_ok F.u__law_leg sc__law_leg rfl fun cdv Ar outer s H E hr => by
  have hC := wpCall_mono (GG B).T (GG B).F n
  have hu := hu_of' hr
  have hp : PassesOwn (model (cxOf (L2.CX PP w) PP w K mg base ["cell", "giver", "taker"] "_law_leg" (defScope (top 66)) A.a__law_leg cdv Ar outer s H E).prog (cxOf (L2.CX PP w) PP w K mg base ["cell", "giver", "taker"] "_law_leg" (defScope (top 66)) A.a__law_leg cdv Ar outer s H E).w) (cxOf (L2.CX PP w) PP w K mg base ["cell", "giver", "taker"] "_law_leg" (defScope (top 66)) A.a__law_leg cdv Ar outer s H E).A (cxOf (L2.CX PP w) PP w K mg base ["cell", "giver", "taker"] "_law_leg" (defScope (top 66)) A.a__law_leg cdv Ar outer s H E).env (cxOf (L2.CX PP w) PP w K mg base ["cell", "giver", "taker"] "_law_leg" (defScope (top 66)) A.a__law_leg cdv Ar outer s H E).xe := passes_of rfl
  exact (css_cons (cs_asg (i := 1) hC sc__law_leg.nd rfl (.inl rfl) (.inl rfl) (ce_call (c.f__law_name) hr (by rfl) (.cons (ce_var (i := 0) rfl (.inl rfl) nd_cell nc_cell) (nostar rfl) .nil)))
    (css_cons (cs_asg (i := 2) hC sc__law_leg.nd rfl (.inl rfl) (.inl rfl) (ce_call (c.f__law_name) hr (by rfl) (.cons (ce_bin hC op_addAll vk_add (ce_bin hC op_mulAll vk_mul (ce_var (i := 0) rfl (.inl rfl) nd_cell nc_cell) ce_int) ce_int) (nostar rfl) .nil)))
    (css_cons (cs_ite hC (CW.ct (cw_and hC (ct_cmp hC (op_eqAll hu) vk_eq (ce_var (i := 1) rfl (.inl rfl) nd_giver nc_giver) (ce_var (i := 2) rfl (.inl rfl) nd_taker nc_taker) (by rfl)) (cw_and1 (ct_cmp hC (op_eqAll hu) vk_eq (ce_ix hC hu (ce_var (i := 1) rfl (.inl rfl) nd_giver nc_giver) ce_int (fun _ _ => rfl)) (ce_str s19_e s19_b) (by rfl))))) (css_cons (cs_asg (i := 2) hC sc__law_leg.nd rfl (.inl rfl) (.inl rfl) (ce_bin hC op_addAll vk_add (ce_str s20_e s20_b) (ce_cutL hC (ce_var (i := 1) rfl (.inl rfl) nd_giver nc_giver) ce_int)))
    css_nil) (css_cons (cs_ite hC (ct_cmp hC (op_eqAll hu) vk_eq (ce_var (i := 1) rfl (.inl rfl) nd_giver nc_giver) (ce_var (i := 2) rfl (.inl rfl) nd_taker nc_taker) (by rfl)) (css_cons (cs_asg (i := 2) hC sc__law_leg.nd rfl (.inl rfl) (.inl rfl) (ce_bin hC op_addAll vk_add (ce_str s19_e s19_b) (ce_cutL hC (ce_var (i := 1) rfl (.inl rfl) nd_giver nc_giver) ce_int)))
    css_nil) css_nil)
    css_nil))
    (css_cons (cs_ret hC (ce_tup hC (.cons (ce_var (i := 1) rfl (.inl rfl) nd_giver nc_giver) (nostar rfl) (.cons (ce_var (i := 2) rfl (.inl rfl) nd_taker nc_taker) (nostar rfl) (.cons (ce_call (c.f__law_name) hr (by rfl) (.cons (ce_bin hC op_addAll vk_add (ce_bin hC op_mulAll vk_mul (ce_var (i := 0) rfl (.inl rfl) nd_cell nc_cell) ce_int) ce_int) (nostar rfl) .nil)) (nostar rfl) (.cons (ce_call (c.f__law_amount) hr (by rfl) (.cons (ce_bin hC op_fdiv vk_fdiv (ce_var (i := 0) rfl (.inl rfl) nd_cell nc_cell) ce_int) (nostar rfl) .nil)) (nostar rfl) .nil))))))
    css_nil))))
theorem wk__law_leg_text {A : Ads} (t : Txt B K mg) {n : Nat} (c : All w K mg base B A n) (F : Funs K mg A) (cl : Clss K B A) : FnOk PP w K mg base (L2.CX PP w) (2 * (n + 1)) A.a__law_leg_text A.d__law_leg_text ["leg"] (spOf (GG B) K (n + 1) 15) :=
  def_ok F.u__law_leg_text sc__law_leg_text rfl fun cdv Ar outer s H E hr => by
  have hC := wpCall_mono (GG B).T (GG B).F n
  have hu := hu_of' hr
  have hp : PassesOwn (model (cxOf (L2.CX PP w) PP w K mg base ["leg"] "_law_leg_text" (defScope (top 67)) A.a__law_leg_text cdv Ar outer s H E).prog (cxOf (L2.CX PP w) PP w K mg base ["leg"] "_law_leg_text" (defScope (top 67)) A.a__law_leg_text cdv Ar outer s H E).w) (cxOf (L2.CX PP w) PP w K mg base ["leg"] "_law_leg_text" (defScope (top 67)) A.a__law_leg_text cdv Ar outer s H E).A (cxOf (L2.CX PP w) PP w K mg base ["leg"] "_law_leg_text" (defScope (top 67)) A.a__law_leg_text cdv Ar outer s H E).env (cxOf (L2.CX PP w) PP w K mg base ["leg"] "_law_leg_text" (defScope (top 67)) A.a__law_leg_text cdv Ar outer s H E).xe := passes_of rfl
  exact (css_cons (cs_ret hC (ce_bin hC op_addAll vk_add (ce_bin hC op_addAll vk_add (ce_bin hC op_addAll vk_add (ce_bin hC op_addAll vk_add (ce_bin hC op_addAll vk_add (ce_bin hC op_addAll vk_add (ce_ix hC hu (ce_var (i := 0) rfl (.inl rfl) nd_leg nc_leg) ce_int (fun _ _ => rfl)) (ce_str s2_e s2_b)) (ce_ix hC hu (ce_var (i := 0) rfl (.inl rfl) nd_leg nc_leg) ce_int (fun _ _ => rfl))) (ce_str s2_e s2_b)) (ce_ix hC hu (ce_var (i := 0) rfl (.inl rfl) nd_leg nc_leg) ce_int (fun _ _ => rfl))) (ce_str s2_e s2_b)) (ce_callTy hC call_str_int vk_str1 (.cons (ce_ix hC hu (ce_var (i := 0) rfl (.inl rfl) nd_leg nc_leg) ce_int (fun _ _ => rfl)) (nostar rfl) .nil) (by rfl) t.n_str (by decide +kernel))))
    css_nil)
theorem wk__law_made {A : Ads} (t : Txt B K mg) {n : Nat} (c : All w K mg base B A n) (F : Funs K mg A) (cl : Clss K B A) : FnOk PP w K mg base (L2.CX PP w) (2 * (n + 1)) A.a__law_made A.d__law_made ["head", "one", "two"] (spOf (GG B) K (n + 1) 16) :=
  def_ok F.u__law_made sc__law_made rfl fun cdv Ar outer s H E hr => by
  have hC := wpCall_mono (GG B).T (GG B).F n
  have hu := hu_of' hr
  have hp : PassesOwn (model (cxOf (L2.CX PP w) PP w K mg base ["head", "one", "two", "kind", "shelf", "front", "amount", "line", "legs", "text", "name", "place", "k", "leg"] "_law_made" (defScope (top 68)) A.a__law_made cdv Ar outer s H E).prog (cxOf (L2.CX PP w) PP w K mg base ["head", "one", "two", "kind", "shelf", "front", "amount", "line", "legs", "text", "name", "place", "k", "leg"] "_law_made" (defScope (top 68)) A.a__law_made cdv Ar outer s H E).w) (cxOf (L2.CX PP w) PP w K mg base ["head", "one", "two", "kind", "shelf", "front", "amount", "line", "legs", "text", "name", "place", "k", "leg"] "_law_made" (defScope (top 68)) A.a__law_made cdv Ar outer s H E).A (cxOf (L2.CX PP w) PP w K mg base ["head", "one", "two", "kind", "shelf", "front", "amount", "line", "legs", "text", "name", "place", "k", "leg"] "_law_made" (defScope (top 68)) A.a__law_made cdv Ar outer s H E).env (cxOf (L2.CX PP w) PP w K mg base ["head", "one", "two", "kind", "shelf", "front", "amount", "line", "legs", "text", "name", "place", "k", "leg"] "_law_made" (defScope (top 68)) A.a__law_made cdv Ar outer s H E).xe := passes_of rfl
  exact (css_cons (cs_asg (i := 3) hC sc__law_made.nd rfl (.inl rfl) (.inl rfl) (ce_bin hC op_mod vk_mod (ce_var (i := 0) rfl (.inl rfl) nd_head nc_head) ce_int))
    (css_cons (cs_asg (i := 4) hC sc__law_made.nd rfl (.inl rfl) (.inl rfl) (ce_tup hC (.cons (ce_call (c.f__law_name) hr (by rfl) (.cons (ce_var (i := 1) rfl (.inl rfl) nd_one nc_one) (nostar rfl) .nil)) (nostar rfl) (.cons (ce_call (c.f__law_name) hr (by rfl) (.cons (ce_bin hC op_addAll vk_add (ce_bin hC op_mulAll vk_mul (ce_var (i := 1) rfl (.inl rfl) nd_one nc_one) ce_int) ce_int) (nostar rfl) .nil)) (nostar rfl) .nil))))
    (css_cons (cs_asg (i := 5) hC sc__law_made.nd rfl (.inl rfl) (.inl rfl) (ce_bin hC op_addAll vk_add (ce_bin hC op_addAll vk_add (ce_bin hC op_addAll vk_add (ce_ix hC hu (ce_var (i := 4) rfl (.inl rfl) nd_shelf nc_shelf) ce_int (fun _ _ => rfl)) (ce_str s2_e s2_b)) (ce_ix hC hu (ce_var (i := 4) rfl (.inl rfl) nd_shelf nc_shelf) ce_int (fun _ _ => rfl))) (ce_str s2_e s2_b)))
    (css_cons (cs_asg (i := 6) hC sc__law_made.nd rfl (.inl rfl) (.inl rfl) (ce_call (c.f__law_amount) hr (by rfl) (.cons (ce_var (i := 2) rfl (.inr (.inl rfl)) nd_two nc_two) (nostar rfl) .nil)))
    (css_cons (cs_ite hC (ct_cmp hC (op_ltAll hu) vk_lt (ce_var (i := 3) rfl (.inl rfl) nd_kind nc_kind) ce_int (by rfl)) (css_cons (cs_ret hC (ce_tup hC (.cons (ce_var (i := 3) rfl (.inl rfl) nd_kind nc_kind) (nostar rfl) (.cons (ce_tup hC (.cons (ce_var (i := 4) rfl (.inl rfl) nd_shelf nc_shelf) (nostar rfl) (.cons (ce_var (i := 6) rfl (.inl rfl) nd_amount nc_amount) (nostar rfl) .nil))) (nostar rfl) (.cons (ce_bin hC op_addAll vk_add (ce_bin hC op_addAll vk_add (ce_ix hC hu (ce_lst hC (.cons (ce_str s25_e s25_b) (nostar rfl) (.cons (ce_str s24_e s24_b) (nostar rfl) .nil))) (ce_var (i := 3) rfl (.inl rfl) nd_kind nc_kind) (fun _ _ => rfl)) (ce_var (i := 5) rfl (.inl rfl) nd_front nc_front)) (ce_callTy hC call_str_int vk_str1 (.cons (ce_var (i := 6) rfl (.inl rfl) nd_amount nc_amount) (nostar rfl) .nil) (by rfl) t.n_str (by decide +kernel))) (nostar rfl) .nil)))))
    css_nil) css_nil)
    (css_cons (cs_ite hC (ct_cmp hC (op_eqAll hu) vk_eq (ce_var (i := 3) rfl (.inl rfl) nd_kind nc_kind) ce_int (by rfl)) (css_cons (cs_asg (i := 7) hC sc__law_made.nd rfl (.inl rfl) (.inl rfl) (ce_ix hC hu (ce_lst hC (.cons ce_int (nostar rfl) (.cons (ce_var (i := 6) rfl (.inl rfl) nd_amount nc_amount) (nostar rfl) .nil))) (ce_callTy hC call_intAll vk_int (.cons (ce_cmp hC op_gt vk_gt (ce_bin hC op_mod vk_mod (ce_bin hC op_fdiv vk_fdiv (ce_var (i := 2) rfl (.inr (.inl rfl)) nd_two nc_two) ce_int) ce_int) ce_int (by rfl)) (nostar rfl) .nil) (by rfl) t.n_int (by decide +kernel)) (fun _ _ => rfl)))
    (css_cons (cs_ret hC (ce_tup hC (.cons (ce_var (i := 3) rfl (.inl rfl) nd_kind nc_kind) (nostar rfl) (.cons (ce_tup hC (.cons (ce_var (i := 4) rfl (.inl rfl) nd_shelf nc_shelf) (nostar rfl) (.cons (ce_var (i := 7) rfl (.inl rfl) nd_line nc_line) (nostar rfl) .nil))) (nostar rfl) (.cons (ce_bin hC op_addAll vk_add (ce_bin hC op_addAll vk_add (ce_str s23_e s23_b) (ce_var (i := 5) rfl (.inl rfl) nd_front nc_front)) (ce_callTy hC call_str_int vk_str1 (.cons (ce_var (i := 7) rfl (.inl rfl) nd_line nc_line) (nostar rfl) .nil) (by rfl) t.n_str (by decide +kernel))) (nostar rfl) .nil)))))
    css_nil)) css_nil)
    (css_cons (cs_ite hC (ct_cmp hC (op_eqAll hu) vk_eq (ce_var (i := 3) rfl (.inl rfl) nd_kind nc_kind) ce_int (by rfl)) (css_cons (cs_asgLc hC (CompR.mk (i := 12) (mt := none) rfl sc__law_made.nd (ci_rng1 hC (by rfl) t.n_range (ce_bin hC op_addAll vk_add ce_int (ce_bin hC op_mod vk_mod (ce_bin hC op_fdiv vk_fdiv (ce_var (i := 0) rfl (.inl rfl) nd_head nc_head) ce_int) ce_int))) (show BlkOk ["head", "one", "two", "kind", "shelf", "front", "amount", "line", "legs", "text", "name", "place", "k", "leg"] (defScope (top 68)) _ _ from ⟨rfl, by decide +kernel, by decide +kernel, by decide +kernel, by decide +kernel⟩) (fun _ _ _ _ _ => pg_name sc__law_made.nd rfl (.inl rfl)) (fun _ _ _ _ _ => pts_nil) (fun _ _ _ _ _ => (ce_call (c.f__law_leg) hr (by rfl) (.cons (ce_bin hC op_mod vk_mod (ce_bin hC op_addAll vk_add (ce_bin hC op_addAll vk_add (ce_var (i := 2) rfl (.inr (.inl rfl)) nd_two nc_two) (ce_bin hC op_mulAll vk_mul (ce_bin hC op_mulAll vk_mul ce_int (ce_var (i := 12) rfl (.inl rfl) nd_k nc_k)) (ce_var (i := 12) rfl (.inl rfl) nd_k nc_k))) (ce_var (i := 12) rfl (.inl rfl) nd_k nc_k)) (ce_bin hC op_pow vk_pow ce_int ce_int)) (nostar rfl) .nil))) (fun _ => rfl)) rfl rfl (sw_true rfl rfl rfl (by decide +kernel)))
    (css_cons (cs_asg (i := 9) hC sc__law_made.nd rfl (.inl rfl) (.inl rfl) (ce_bin hC op_addAll vk_add (ce_bin hC op_addAll vk_add (ce_bin hC op_addAll vk_add (ce_str s10_e s10_b) (ce_ix hC hu (ce_var (i := 4) rfl (.inl rfl) nd_shelf nc_shelf) ce_int (fun _ _ => rfl))) (ce_str s2_e s2_b)) (ce_bm hC PySem.F.plainAttrs_str PySem.F.slot_str_join PySem.F.type_str_join mt_join vm_join ty_join (ce_str s3_e s3_b) (.cons (ce_comp hC (CompR.mk (i := 13) (mt := none) rfl sc__law_made.nd (ci_seq hC (ce_var (i := 8) rfl (.inl rfl) nd_legs nc_legs)) (show BlkOk ["head", "one", "two", "kind", "shelf", "front", "amount", "line", "legs", "text", "name", "place", "k", "leg"] (defScope (top 68)) _ _ from ⟨rfl, by decide +kernel, by decide +kernel, by decide +kernel, by decide +kernel⟩) (fun _ _ _ _ _ => pg_name sc__law_made.nd rfl (.inl rfl)) (fun _ _ _ _ _ => pts_nil) (fun _ _ _ _ _ => (ce_call (c.f__law_leg_text) hr (by rfl) (.cons (ce_var (i := 13) rfl (.inl rfl) nd_leg nc_leg) (nostar rfl) .nil))) (fun _ => rfl))) (nostar rfl) .nil))))
    (css_cons (cs_ret hC (ce_tup hC (.cons (ce_var (i := 3) rfl (.inl rfl) nd_kind nc_kind) (nostar rfl) (.cons (ce_tup hC (.cons (ce_tup hC (.cons (ce_ix hC hu (ce_var (i := 4) rfl (.inl rfl) nd_shelf nc_shelf) ce_int (fun _ _ => rfl)) (nostar rfl) (.cons (ce_callTy hC call_tuple_of vk_tupOf (.cons (ce_var (i := 8) rfl (.inl rfl) nd_legs nc_legs) (nostar rfl) .nil) (by rfl) t.n_tuple (by decide +kernel)) (nostar rfl) .nil))) (nostar rfl) .nil)) (nostar rfl) (.cons (ce_var (i := 9) rfl (.inl rfl) nd_text nc_text) (nostar rfl) .nil)))))
    css_nil))) css_nil)
    (css_cons (cs_ite hC (ct_cmp hC (op_eqAll hu) vk_eq (ce_var (i := 3) rfl (.inl rfl) nd_kind nc_kind) ce_int (by rfl)) (css_cons (cs_ret hC (ce_tup hC (.cons (ce_var (i := 3) rfl (.inl rfl) nd_kind nc_kind) (nostar rfl) (.cons (ce_tup hC (.cons (ce_ix hC hu (ce_var (i := 4) rfl (.inl rfl) nd_shelf nc_shelf) ce_int (fun _ _ => rfl)) (nostar rfl) .nil)) (nostar rfl) (.cons (ce_bin hC op_addAll vk_add (ce_str s22_e s22_b) (ce_ix hC hu (ce_var (i := 4) rfl (.inl rfl) nd_shelf nc_shelf) ce_int (fun _ _ => rfl))) (nostar rfl) .nil)))))
    css_nil) css_nil)
    (css_cons (cs_ite hC (ct_cmp hC (op_eqAll hu) vk_eq (ce_var (i := 3) rfl (.inl rfl) nd_kind nc_kind) ce_int (by rfl)) (css_cons (cs_asg (i := 10) hC sc__law_made.nd rfl (.inl rfl) (.inl rfl) (ce_call (c.f__law_name) hr (by rfl) (.cons (ce_var (i := 2) rfl (.inr (.inl rfl)) nd_two nc_two) (nostar rfl) .nil)))
    (css_cons (cs_asg (i := 11) hC sc__law_made.nd rfl (.inl rfl) (.inl rfl) (ce_ix hC hu (ce_lst hC (.cons (ce_bin hC op_mod vk_mod (ce_bin hC op_fdiv vk_fdiv (ce_var (i := 0) rfl (.inl rfl) nd_head nc_head) ce_int) ce_int) (nostar rfl) (.cons (ce_bin hC op_mod vk_mod (ce_bin hC op_fdiv vk_fdiv (ce_var (i := 0) rfl (.inl rfl) nd_head nc_head) ce_int) (ce_bin hC op_pow vk_pow ce_int ce_int)) (nostar rfl) .nil))) (ce_bin hC op_fdiv vk_fdiv (ce_bin hC op_mod vk_mod (ce_bin hC op_fdiv vk_fdiv (ce_var (i := 0) rfl (.inl rfl) nd_head nc_head) ce_int) ce_int) ce_int) (fun _ _ => rfl)))
    (css_cons (cs_ret hC (ce_tup hC (.cons (ce_var (i := 3) rfl (.inl rfl) nd_kind nc_kind) (nostar rfl) (.cons (ce_tup hC (.cons (ce_var (i := 4) rfl (.inl rfl) nd_shelf nc_shelf) (nostar rfl) (.cons (ce_var (i := 10) rfl (.inl rfl) nd_name nc_name) (nostar rfl) (.cons (ce_var (i := 11) rfl (.inl rfl) nd_place nc_place) (nostar rfl) .nil)))) (nostar rfl) (.cons (ce_bin hC op_addAll vk_add (ce_bin hC op_addAll vk_add (ce_bin hC op_addAll vk_add (ce_bin hC op_addAll vk_add (ce_str s21_e s21_b) (ce_var (i := 5) rfl (.inl rfl) nd_front nc_front)) (ce_var (i := 10) rfl (.inl rfl) nd_name nc_name)) (ce_str s2_e s2_b)) (ce_callTy hC call_str_int vk_str1 (.cons (ce_var (i := 11) rfl (.inl rfl) nd_place nc_place) (nostar rfl) .nil) (by rfl) t.n_str (by decide +kernel))) (nostar rfl) .nil)))))
    css_nil))) css_nil)
    (css_cons (cs_ret hC (ce_tup hC (.cons (ce_var (i := 3) rfl (.inl rfl) nd_kind nc_kind) (nostar rfl) (.cons (ce_tup hC .nil) (nostar rfl) (.cons (ce_str s9_e s9_b) (nostar rfl) .nil)))))
    css_nil))))))))))
theorem wk__law_word {A : Ads} (t : Txt B K mg) {n : Nat} (c : All w K mg base B A n) (F : Funs K mg A) (cl : Clss K B A) : FnOk PP w K mg base (L2.CX PP w) (2 * (n + 1)) A.a__law_word A.d__law_word ["word"] (spOf (GG B) K (n + 1) 17) :=
  def_ok F.u__law_word sc__law_word rfl fun cdv Ar outer s H E hr => by
  have hC := wpCall_mono (GG B).T (GG B).F n
  have hu := hu_of' hr
  have hp : PassesOwn (model (cxOf (L2.CX PP w) PP w K mg base ["word", "sign"] "_law_word" (defScope (top 69)) A.a__law_word cdv Ar outer s H E).prog (cxOf (L2.CX PP w) PP w K mg base ["word", "sign"] "_law_word" (defScope (top 69)) A.a__law_word cdv Ar outer s H E).w) (cxOf (L2.CX PP w) PP w K mg base ["word", "sign"] "_law_word" (defScope (top 69)) A.a__law_word cdv Ar outer s H E).A (cxOf (L2.CX PP w) PP w K mg base ["word", "sign"] "_law_word" (defScope (top 69)) A.a__law_word cdv Ar outer s H E).env (cxOf (L2.CX PP w) PP w K mg base ["word", "sign"] "_law_word" (defScope (top 69)) A.a__law_word cdv Ar outer s H E).xe := passes_of rfl
  exact (css_cons (cs_for1 (i := 1) hC hp rfl sc__law_word.nd rfl (.inl rfl) (.inl rfl) (ci_seq hC (ce_var (i := 0) rfl (.inl rfl) nd_word nc_word)) (css_cons (cs_ite hC (ct_cmp hC (op_ninAll hu) vk_nin (ce_var (i := 1) rfl (.inl rfl) nd_sign nc_sign) (ce_str s11_e s11_b) (by rfl)) (css_cons (cs_ret hC ce_bl)
    css_nil) css_nil)
    css_nil))
    (css_cons (cs_ret hC (ce_and hC (ce_cmp hC op_ge vk_ge (ce_callB hC call_lenAll vk_len (.cons (ce_var (i := 0) rfl (.inl rfl) nd_word nc_word) (nostar rfl) .nil) (by rfl) t.n_len (by decide +kernel)) ce_int (by rfl)) (ce_one (ce_cmp hC op_le vk_le (ce_callB hC call_lenAll vk_len (.cons (ce_var (i := 0) rfl (.inl rfl) nd_word nc_word) (nostar rfl) .nil) (by rfl) t.n_len (by decide +kernel)) ce_int (by rfl)))))
    css_nil))
theorem wk__law_figures {A : Ads} (t : Txt B K mg) {n : Nat} (c : All w K mg base B A n) (F : Funs K mg A) (cl : Clss K B A) : FnOk PP w K mg base (L2.CX PP w) (2 * (n + 1)) A.a__law_figures A.d__law_figures ["word", "bottom"] (spOf (GG B) K (n + 1) 18) :=
  def_ok F.u__law_figures sc__law_figures rfl fun cdv Ar outer s H E hr => by
  have hC := wpCall_mono (GG B).T (GG B).F n
  have hu := hu_of' hr
  have hp : PassesOwn (model (cxOf (L2.CX PP w) PP w K mg base ["word", "bottom", "sign"] "_law_figures" (defScope (top 70)) A.a__law_figures cdv Ar outer s H E).prog (cxOf (L2.CX PP w) PP w K mg base ["word", "bottom", "sign"] "_law_figures" (defScope (top 70)) A.a__law_figures cdv Ar outer s H E).w) (cxOf (L2.CX PP w) PP w K mg base ["word", "bottom", "sign"] "_law_figures" (defScope (top 70)) A.a__law_figures cdv Ar outer s H E).A (cxOf (L2.CX PP w) PP w K mg base ["word", "bottom", "sign"] "_law_figures" (defScope (top 70)) A.a__law_figures cdv Ar outer s H E).env (cxOf (L2.CX PP w) PP w K mg base ["word", "bottom", "sign"] "_law_figures" (defScope (top 70)) A.a__law_figures cdv Ar outer s H E).xe := passes_of rfl
  exact (css_cons (cs_ite hC (CW.ct (cw_or hC (ct_cmp hC (op_eqAll hu) vk_eq (ce_var (i := 0) rfl (.inl rfl) nd_word nc_word) (ce_str s1_e s1_b) (by rfl)) (cw_or hC (ct_cmp hC op_gt vk_gt (ce_callB hC call_lenAll vk_len (.cons (ce_var (i := 0) rfl (.inl rfl) nd_word nc_word) (nostar rfl) .nil) (by rfl) t.n_len (by decide +kernel)) ce_int (by rfl)) (cw_or1 (ct_cmp hC (op_eqAll hu) vk_eq (ce_var (i := 0) rfl (.inl rfl) nd_word nc_word) (ce_str s0_e s0_b) (by rfl)))))) (css_cons (cs_ret hC (ce_and hC (ce_cmp hC (op_eqAll hu) vk_eq (ce_var (i := 0) rfl (.inl rfl) nd_word nc_word) (ce_str s0_e s0_b) (by rfl)) (ce_one (ce_cmp hC (op_eqAll hu) vk_eq (ce_var (i := 1) rfl (.inl rfl) nd_bottom nc_bottom) ce_int (by rfl)))))
    css_nil) css_nil)
    (css_cons (cs_for1 (i := 2) hC hp rfl sc__law_figures.nd rfl (.inl rfl) (.inl rfl) (ci_seq hC (ce_var (i := 0) rfl (.inl rfl) nd_word nc_word)) (css_cons (cs_ite hC (ct_cmp hC (op_ninAll hu) vk_nin (ce_var (i := 2) rfl (.inl rfl) nd_sign nc_sign) (ce_str s26_e s26_b) (by rfl)) (css_cons (cs_ret hC ce_bl)
    css_nil) css_nil)
    css_nil))
    (css_cons (cs_ret hC (ce_cmp hC (op_neAll hu) vk_ne (ce_ix hC hu (ce_var (i := 0) rfl (.inl rfl) nd_word nc_word) ce_int (fun _ _ => rfl)) (ce_str s0_e s0_b) (by rfl)))
    css_nil)))
theorem wk__law_is_leg {A : Ads} (t : Txt B K mg) {n : Nat} (c : All w K mg base B A n) (F : Funs K mg A) (cl : Clss K B A) : FnOk PP w K mg base (L2.CX PP w) (2 * (n + 1)) A.a__law_is_leg A.d__law_is_leg ["text"] (spOf (GG B) K (n + 1) 19) :=
  def_ok F.u__law_is_leg sc__law_is_leg rfl fun cdv Ar outer s H E hr => by
  have hC := wpCall_mono (GG B).T (GG B).F n
  have hu := hu_of' hr
  have hp : PassesOwn (model (cxOf (L2.CX PP w) PP w K mg base ["text", "words"] "_law_is_leg" (defScope (top 71)) A.a__law_is_leg cdv Ar outer s H E).prog (cxOf (L2.CX PP w) PP w K mg base ["text", "words"] "_law_is_leg" (defScope (top 71)) A.a__law_is_leg cdv Ar outer s H E).w) (cxOf (L2.CX PP w) PP w K mg base ["text", "words"] "_law_is_leg" (defScope (top 71)) A.a__law_is_leg cdv Ar outer s H E).A (cxOf (L2.CX PP w) PP w K mg base ["text", "words"] "_law_is_leg" (defScope (top 71)) A.a__law_is_leg cdv Ar outer s H E).env (cxOf (L2.CX PP w) PP w K mg base ["text", "words"] "_law_is_leg" (defScope (top 71)) A.a__law_is_leg cdv Ar outer s H E).xe := passes_of rfl
  exact (css_cons (cs_asg (i := 1) hC sc__law_is_leg.nd rfl (.inl rfl) (.inl rfl) (ce_bm hC PySem.F.plainAttrs_str PySem.F.slot_str_split PySem.F.type_str_split mt_split vm_split ty_split (ce_var (i := 0) rfl (.inl rfl) nd_text nc_text) (.cons (ce_str s2_e s2_b) (nostar rfl) .nil)))
    (css_cons (cs_ite hC (CW.ct (cw_or hC (ct_cmp hC (op_neAll hu) vk_ne (ce_callB hC call_lenAll vk_len (.cons (ce_var (i := 1) rfl (.inl rfl) nd_words nc_words) (nostar rfl) .nil) (by rfl) t.n_len (by decide +kernel)) ce_int (by rfl)) (cw_or hC (ct_not hC (ct_val (ce_call (c.f__law_word) hr (by rfl) (.cons (ce_ix hC hu (ce_var (i := 1) rfl (.inl rfl) nd_words nc_words) ce_int (fun _ _ => rfl)) (nostar rfl) .nil)) (fun _ => rfl) hC)) (cw_or hC (ct_not hC (ct_val (ce_call (c.f__law_word) hr (by rfl) (.cons (ce_ix hC hu (ce_var (i := 1) rfl (.inl rfl) nd_words nc_words) ce_int (fun _ _ => rfl)) (nostar rfl) .nil)) (fun _ => rfl) hC)) (cw_or1 (ct_not hC (ct_val (ce_call (c.f__law_word) hr (by rfl) (.cons (ce_ix hC hu (ce_var (i := 1) rfl (.inl rfl) nd_words nc_words) ce_int (fun _ _ => rfl)) (nostar rfl) .nil)) (fun _ => rfl) hC))))))) (css_cons (cs_ret hC ce_bl)
    css_nil) css_nil)
    (css_cons (cs_ret hC (ce_and hC (ce_cmp hC (op_neAll hu) vk_ne (ce_ix hC hu (ce_var (i := 1) rfl (.inl rfl) nd_words nc_words) ce_int (fun _ _ => rfl)) (ce_ix hC hu (ce_var (i := 1) rfl (.inl rfl) nd_words nc_words) ce_int (fun _ _ => rfl)) (by rfl)) (ce_one (ce_call (c.f__law_figures) hr (by rfl) (.cons (ce_ix hC hu (ce_var (i := 1) rfl (.inl rfl) nd_words nc_words) ce_int (fun _ _ => rfl)) (nostar rfl) (.cons ce_int (nostar rfl) .nil))))))
    css_nil)))
theorem wk__law_is_deal {A : Ads} (t : Txt B K mg) {n : Nat} (c : All w K mg base B A n) (F : Funs K mg A) (cl : Clss K B A) : FnOk PP w K mg base (L2.CX PP w) (2 * (n + 1)) A.a__law_is_deal A.d__law_is_deal ["words"] (spOf (GG B) K (n + 1) 20) :=
  def_ok F.u__law_is_deal sc__law_is_deal rfl fun cdv Ar outer s H E hr => by
  have hC := wpCall_mono (GG B).T (GG B).F n
  have hu := hu_of' hr
  have hp : PassesOwn (model (cxOf (L2.CX PP w) PP w K mg base ["words", "legs", "leg"] "_law_is_deal" (defScope (top 72)) A.a__law_is_deal cdv Ar outer s H E).prog (cxOf (L2.CX PP w) PP w K mg base ["words", "legs", "leg"] "_law_is_deal" (defScope (top 72)) A.a__law_is_deal cdv Ar outer s H E).w) (cxOf (L2.CX PP w) PP w K mg base ["words", "legs", "leg"] "_law_is_deal" (defScope (top 72)) A.a__law_is_deal cdv Ar outer s H E).A (cxOf (L2.CX PP w) PP w K mg base ["words", "legs", "leg"] "_law_is_deal" (defScope (top 72)) A.a__law_is_deal cdv Ar outer s H E).env (cxOf (L2.CX PP w) PP w K mg base ["words", "legs", "leg"] "_law_is_deal" (defScope (top 72)) A.a__law_is_deal cdv Ar outer s H E).xe := passes_of rfl
  exact (css_cons (cs_ite hC (CW.ct (cw_or hC (ct_cmp hC (op_ltAll hu) vk_lt (ce_callB hC call_lenAll vk_len (.cons (ce_var (i := 0) rfl (.inl rfl) nd_words nc_words) (nostar rfl) .nil) (by rfl) t.n_len (by decide +kernel)) ce_int (by rfl)) (cw_or1 (ct_not hC (ct_val (ce_call (c.f__law_word) hr (by rfl) (.cons (ce_ix hC hu (ce_var (i := 0) rfl (.inl rfl) nd_words nc_words) ce_int (fun _ _ => rfl)) (nostar rfl) .nil)) (fun _ => rfl) hC))))) (css_cons (cs_ret hC ce_bl)
    css_nil) css_nil)
    (css_cons (cs_asg (i := 1) hC sc__law_is_deal.nd rfl (.inl rfl) (.inl rfl) (ce_bm hC PySem.F.plainAttrs_str PySem.F.slot_str_split PySem.F.type_str_split mt_split vm_split ty_split (ce_bm hC PySem.F.plainAttrs_str PySem.F.slot_str_join PySem.F.type_str_join mt_join vm_join ty_join (ce_str s2_e s2_b) (.cons (ce_cutL hC (ce_var (i := 0) rfl (.inl rfl) nd_words nc_words) ce_int) (nostar rfl) .nil)) (.cons (ce_str s3_e s3_b) (nostar rfl) .nil)))
    (css_cons (cs_for1 (i := 2) hC hp rfl sc__law_is_deal.nd rfl (.inl rfl) (.inl rfl) (ci_seq hC (ce_var (i := 1) rfl (.inl rfl) nd_legs nc_legs)) (css_cons (cs_ite hC (ct_not hC (ct_val (ce_call (c.f__law_is_leg) hr (by rfl) (.cons (ce_var (i := 2) rfl (.inl rfl) nd_leg nc_leg) (nostar rfl) .nil)) (fun _ => rfl) hC)) (css_cons (cs_ret hC ce_bl)
    css_nil) css_nil)
    css_nil))
    (css_cons (cs_ret hC (ce_cmp hC op_le vk_le (ce_callB hC call_lenAll vk_len (.cons (ce_var (i := 1) rfl (.inl rfl) nd_legs nc_legs) (nostar rfl) .nil) (by rfl) t.n_len (by decide +kernel)) ce_int (by rfl)))
    css_nil))))
theorem wk__law_good {A : Ads} (t : Txt B K mg) {n : Nat} (c : All w K mg base B A n) (F : Funs K mg A) (cl : Clss K B A) : FnOk PP w K mg base (L2.CX PP w) (2 * (n + 1)) A.a__law_good A.d__law_good ["row"] (spOf (GG B) K (n + 1) 21) :=
  def_ok F.u__law_good sc__law_good rfl fun cdv Ar outer s H E hr => by
  have hC := wpCall_mono (GG B).T (GG B).F n
  have hu := hu_of' hr
  have hp : PassesOwn (model (cxOf (L2.CX PP w) PP w K mg base ["row", "words"] "_law_good" (defScope (top 73)) A.a__law_good cdv Ar outer s H E).prog (cxOf (L2.CX PP w) PP w K mg base ["row", "words"] "_law_good" (defScope (top 73)) A.a__law_good cdv Ar outer s H E).w) (cxOf (L2.CX PP w) PP w K mg base ["row", "words"] "_law_good" (defScope (top 73)) A.a__law_good cdv Ar outer s H E).A (cxOf (L2.CX PP w) PP w K mg base ["row", "words"] "_law_good" (defScope (top 73)) A.a__law_good cdv Ar outer s H E).env (cxOf (L2.CX PP w) PP w K mg base ["row", "words"] "_law_good" (defScope (top 73)) A.a__law_good cdv Ar outer s H E).xe := passes_of rfl
  exact (css_cons (cs_ite hC (ct_not hC (ct_val (ce_isi hC (pc := ⟨0, 0, 0, 0⟩) (cl := .ty .str) (clok_ty (n := .str)) (.ty _) (pe_bty (by rfl) t.n_str (by decide +kernel)) (ce_var (i := 0) rfl (.inl rfl) nd_row nc_row) (by rfl) t.n_isinstance) (fun _ => rfl) hC)) (css_cons (cs_ret hC ce_bl)
    css_nil) css_nil)
    (css_cons (cs_asg (i := 1) hC sc__law_good.nd rfl (.inl rfl) (.inl rfl) (ce_bm hC PySem.F.plainAttrs_str PySem.F.slot_str_split PySem.F.type_str_split mt_split vm_split ty_split (ce_var (i := 0) rfl (.inl rfl) nd_row nc_row) (.cons (ce_str s2_e s2_b) (nostar rfl) .nil)))
    (css_cons (cs_ite hC (ct_cmp hC (op_eqAll hu) vk_eq (ce_ix hC hu (ce_var (i := 1) rfl (.inl rfl) nd_words nc_words) ce_int (fun _ _ => rfl)) (ce_str s18_e s18_b) (by rfl)) (css_cons (cs_ret hC (ce_call (c.f__law_is_deal) hr (by rfl) (.cons (ce_var (i := 1) rfl (.inl rfl) nd_words nc_words) (nostar rfl) .nil)))
    css_nil) css_nil)
    (css_cons (cs_ite hC (ct_cmp hC (op_eqAll hu) vk_eq (ce_ix hC hu (ce_var (i := 1) rfl (.inl rfl) nd_words nc_words) ce_int (fun _ _ => rfl)) (ce_str s8_e s8_b) (by rfl)) (css_cons (cs_ret hC (ce_and hC (ce_cmp hC (op_eqAll hu) vk_eq (ce_callB hC call_lenAll vk_len (.cons (ce_var (i := 1) rfl (.inl rfl) nd_words nc_words) (nostar rfl) .nil) (by rfl) t.n_len (by decide +kernel)) ce_int (by rfl)) (ce_one (ce_call (c.f__law_word) hr (by rfl) (.cons (ce_ix hC hu (ce_var (i := 1) rfl (.inl rfl) nd_words nc_words) ce_int (fun _ _ => rfl)) (nostar rfl) .nil)))))
    css_nil) css_nil)
    (css_cons (cs_ite hC (ct_cmp hC (op_eqAll hu) vk_eq (ce_ix hC hu (ce_var (i := 1) rfl (.inl rfl) nd_words nc_words) ce_int (fun _ _ => rfl)) (ce_str s7_e s7_b) (by rfl)) (css_cons (cs_ite hC (CW.ct (cw_or hC (ct_cmp hC (op_neAll hu) vk_ne (ce_callB hC call_lenAll vk_len (.cons (ce_var (i := 1) rfl (.inl rfl) nd_words nc_words) (nostar rfl) .nil) (by rfl) t.n_len (by decide +kernel)) ce_int (by rfl)) (cw_or hC (ct_not hC (ct_val (ce_call (c.f__law_word) hr (by rfl) (.cons (ce_ix hC hu (ce_var (i := 1) rfl (.inl rfl) nd_words nc_words) ce_int (fun _ _ => rfl)) (nostar rfl) .nil)) (fun _ => rfl) hC)) (cw_or1 (ct_not hC (ct_val (ce_call (c.f__law_word) hr (by rfl) (.cons (ce_ix hC hu (ce_var (i := 1) rfl (.inl rfl) nd_words nc_words) ce_int (fun _ _ => rfl)) (nostar rfl) .nil)) (fun _ => rfl) hC)))))) (css_cons (cs_ret hC ce_bl)
    css_nil) css_nil)
    (css_cons (cs_ret hC (ce_and hC (ce_call (c.f__law_word) hr (by rfl) (.cons (ce_ix hC hu (ce_var (i := 1) rfl (.inl rfl) nd_words nc_words) ce_int (fun _ _ => rfl)) (nostar rfl) .nil)) (ce_one (ce_call (c.f__law_figures) hr (by rfl) (.cons (ce_ix hC hu (ce_var (i := 1) rfl (.inl rfl) nd_words nc_words) ce_int (fun _ _ => rfl)) (nostar rfl) (.cons ce_int (nostar rfl) .nil))))))
    css_nil)) css_nil)
    (css_cons (cs_ite hC (ct_cmp hC (op_inAll hu) vk_inn (ce_ix hC hu (ce_var (i := 1) rfl (.inl rfl) nd_words nc_words) ce_int (fun _ _ => rfl)) (ce_lst hC (.cons (ce_str s6_e s6_b) (nostar rfl) (.cons (ce_str s5_e s5_b) (nostar rfl) (.cons (ce_str s4_e s4_b) (nostar rfl) .nil)))) (by rfl)) (css_cons (cs_ite hC (CW.ct (cw_or hC (ct_cmp hC (op_neAll hu) vk_ne (ce_callB hC call_lenAll vk_len (.cons (ce_var (i := 1) rfl (.inl rfl) nd_words nc_words) (nostar rfl) .nil) (by rfl) t.n_len (by decide +kernel)) ce_int (by rfl)) (cw_or hC (ct_not hC (ct_val (ce_call (c.f__law_word) hr (by rfl) (.cons (ce_ix hC hu (ce_var (i := 1) rfl (.inl rfl) nd_words nc_words) ce_int (fun _ _ => rfl)) (nostar rfl) .nil)) (fun _ => rfl) hC)) (cw_or1 (ct_not hC (ct_val (ce_call (c.f__law_word) hr (by rfl) (.cons (ce_ix hC hu (ce_var (i := 1) rfl (.inl rfl) nd_words nc_words) ce_int (fun _ _ => rfl)) (nostar rfl) .nil)) (fun _ => rfl) hC)))))) (css_cons (cs_ret hC ce_bl)
    css_nil) css_nil)
    (css_cons (cs_ret hC (ce_call (c.f__law_figures) hr (by rfl) (.cons (ce_ix hC hu (ce_var (i := 1) rfl (.inl rfl) nd_words nc_words) ce_int (fun _ _ => rfl)) (nostar rfl) (.cons (ce_callTy hC call_intAll vk_int (.cons (ce_cmp hC (op_neAll hu) vk_ne (ce_ix hC hu (ce_var (i := 1) rfl (.inl rfl) nd_words nc_words) ce_int (fun _ _ => rfl)) (ce_str s4_e s4_b) (by rfl)) (nostar rfl) .nil) (by rfl) t.n_int (by decide +kernel)) (nostar rfl) .nil))))
    css_nil)) css_nil)
    (css_cons (cs_ret hC (ce_cmp hC (op_eqAll hu) vk_eq (ce_var (i := 0) rfl (.inl rfl) nd_row nc_row) (ce_str s9_e s9_b) (by rfl)))
    css_nil)))))))
theorem wk__law_signs {A : Ads} (t : Txt B K mg) {n : Nat} (c : All w K mg base B A n) (F : Funs K mg A) (cl : Clss K B A) : FnOk PP w K mg base (L2.CX PP w) (2 * (n + 1)) A.a__law_signs A.d__law_signs ["text", "place", "sign", "way"] (spOf (GG B) K (n + 1) 22) :=
  def_ok F.u__law_signs sc__law_signs rfl fun cdv Ar outer s H E hr => by
  have hC := wpCall_mono (GG B).T (GG B).F n
  have hu := hu_of' hr
  have hp : PassesOwn (model (cxOf (L2.CX PP w) PP w K mg base ["text", "place", "sign", "way"] "_law_signs" (defScope (top 74)) A.a__law_signs cdv Ar outer s H E).prog (cxOf (L2.CX PP w) PP w K mg base ["text", "place", "sign", "way"] "_law_signs" (defScope (top 74)) A.a__law_signs cdv Ar outer s H E).w) (cxOf (L2.CX PP w) PP w K mg base ["text", "place", "sign", "way"] "_law_signs" (defScope (top 74)) A.a__law_signs cdv Ar outer s H E).A (cxOf (L2.CX PP w) PP w K mg base ["text", "place", "sign", "way"] "_law_signs" (defScope (top 74)) A.a__law_signs cdv Ar outer s H E).env (cxOf (L2.CX PP w) PP w K mg base ["text", "place", "sign", "way"] "_law_signs" (defScope (top 74)) A.a__law_signs cdv Ar outer s H E).xe := passes_of rfl
  exact (css_cons (cs_ite hC (ct_cmp hC (op_eqAll hu) vk_eq (ce_var (i := 3) rfl (.inl rfl) nd_way nc_way) ce_int (by rfl)) (css_cons (cs_ret hC (ce_bin hC op_addAll vk_add (ce_bin hC op_addAll vk_add (ce_cutH hC (ce_var (i := 0) rfl (.inl rfl) nd_text nc_text) (ce_var (i := 1) rfl (.inl rfl) nd_place nc_place)) (ce_var (i := 2) rfl (.inl rfl) nd_sign nc_sign)) (ce_cutL hC (ce_var (i := 0) rfl (.inl rfl) nd_text nc_text) (ce_var (i := 1) rfl (.inl rfl) nd_place nc_place))))
    css_nil) css_nil)
    (css_cons (cs_ite hC (ct_cmp hC (op_eqAll hu) vk_eq (ce_var (i := 3) rfl (.inl rfl) nd_way nc_way) ce_int (by rfl)) (css_cons (cs_ret hC (ce_bin hC op_addAll vk_add (ce_cutH hC (ce_var (i := 0) rfl (.inl rfl) nd_text nc_text) (ce_var (i := 1) rfl (.inl rfl) nd_place nc_place)) (ce_cutL hC (ce_var (i := 0) rfl (.inl rfl) nd_text nc_text) (ce_bin hC op_addAll vk_add (ce_var (i := 1) rfl (.inl rfl) nd_place nc_place) ce_int))))
    css_nil) css_nil)
    (css_cons (cs_ite hC (ct_cmp hC (op_eqAll hu) vk_eq (ce_var (i := 3) rfl (.inl rfl) nd_way nc_way) ce_int (by rfl)) (css_cons (cs_ret hC (ce_bin hC op_addAll vk_add (ce_bin hC op_addAll vk_add (ce_cutH hC (ce_var (i := 0) rfl (.inl rfl) nd_text nc_text) (ce_var (i := 1) rfl (.inl rfl) nd_place nc_place)) (ce_var (i := 2) rfl (.inl rfl) nd_sign nc_sign)) (ce_cutL hC (ce_var (i := 0) rfl (.inl rfl) nd_text nc_text) (ce_bin hC op_addAll vk_add (ce_var (i := 1) rfl (.inl rfl) nd_place nc_place) ce_int))))
    css_nil) css_nil)
    (css_cons (cs_ret hC (ce_bin hC op_addAll vk_add (ce_cutH hC (ce_var (i := 0) rfl (.inl rfl) nd_text nc_text) (ce_var (i := 1) rfl (.inl rfl) nd_place nc_place)) (ce_bm0 hC PySem.F.plainAttrs_str PySem.F.slot_str_upper PySem.F.type_str_upper mt_upper vm_upper ty_upper (ce_cutL hC (ce_var (i := 0) rfl (.inl rfl) nd_text nc_text) (ce_var (i := 1) rfl (.inl rfl) nd_place nc_place)))))
    css_nil))))
theorem wk__law_words {A : Ads} (t : Txt B K mg) {n : Nat} (c : All w K mg base B A n) (F : Funs K mg A) (cl : Clss K B A) : FnOk PP w K mg base (L2.CX PP w) (2 * (n + 1)) A.a__law_words A.d__law_words ["text", "place", "rest", "way"] (spOf (GG B) K (n + 1) 23) :=
  def_ok F.u__law_words sc__law_words rfl fun cdv Ar outer s H E hr => by
  have hC := wpCall_mono (GG B).T (GG B).F n
  have hu := hu_of' hr
  have hp : PassesOwn (model (cxOf (L2.CX PP w) PP w K mg base ["text", "place", "rest", "way", "words", "k", "some"] "_law_words" (defScope (top 75)) A.a__law_words cdv Ar outer s H E).prog (cxOf (L2.CX PP w) PP w K mg base ["text", "place", "rest", "way", "words", "k", "some"] "_law_words" (defScope (top 75)) A.a__law_words cdv Ar outer s H E).w) (cxOf (L2.CX PP w) PP w K mg base ["text", "place", "rest", "way", "words", "k", "some"] "_law_words" (defScope (top 75)) A.a__law_words cdv Ar outer s H E).A (cxOf (L2.CX PP w) PP w K mg base ["text", "place", "rest", "way", "words", "k", "some"] "_law_words" (defScope (top 75)) A.a__law_words cdv Ar outer s H E).env (cxOf (L2.CX PP w) PP w K mg base ["text", "place", "rest", "way", "words", "k", "some"] "_law_words" (defScope (top 75)) A.a__law_words cdv Ar outer s H E).xe := passes_of rfl
  exact (css_cons (cs_asg (i := 4) hC sc__law_words.nd rfl (.inl rfl) (.inl rfl) (ce_bm hC PySem.F.plainAttrs_str PySem.F.slot_str_split PySem.F.type_str_split mt_split vm_split ty_split (ce_var (i := 0) rfl (.inl rfl) nd_text nc_text) (.cons (ce_str s2_e s2_b) (nostar rfl) .nil)))
    (css_cons (cs_asg (i := 5) hC sc__law_words.nd rfl (.inl rfl) (.inl rfl) (ce_bin hC op_mod vk_mod (ce_var (i := 1) rfl (.inl rfl) nd_place nc_place) (ce_callB hC call_lenAll vk_len (.cons (ce_var (i := 4) rfl (.inl rfl) nd_words nc_words) (nostar rfl) .nil) (by rfl) t.n_len (by decide +kernel))))
    (css_cons (cs_ite hC (ct_cmp hC (op_eqAll hu) vk_eq (ce_var (i := 3) rfl (.inl rfl) nd_way nc_way) ce_int (by rfl)) (css_cons (cs_asg (i := 4) hC sc__law_words.nd rfl (.inl rfl) (.inl rfl) (ce_bin hC op_addAll vk_add (ce_cutH hC (ce_var (i := 4) rfl (.inl rfl) nd_words nc_words) (ce_var (i := 5) rfl (.inl rfl) nd_k nc_k)) (ce_cutL hC (ce_var (i := 4) rfl (.inl rfl) nd_words nc_words) (ce_bin hC op_addAll vk_add (ce_var (i := 5) rfl (.inl rfl) nd_k nc_k) ce_int))))
    css_nil) css_nil)
    (css_cons (cs_ite hC (ct_cmp hC (op_eqAll hu) vk_eq (ce_var (i := 3) rfl (.inl rfl) nd_way nc_way) ce_int (by rfl)) (css_cons (cs_asg (i := 4) hC sc__law_words.nd rfl (.inl rfl) (.inl rfl) (ce_bin hC op_addAll vk_add (ce_bin hC op_addAll vk_add (ce_cutH hC (ce_var (i := 4) rfl (.inl rfl) nd_words nc_words) (ce_var (i := 5) rfl (.inl rfl) nd_k nc_k)) (ce_lst hC (.cons (ce_ix hC hu (ce_var (i := 4) rfl (.inl rfl) nd_words nc_words) (ce_var (i := 5) rfl (.inl rfl) nd_k nc_k) (fun _ _ => rfl)) (nostar rfl) .nil))) (ce_cutL hC (ce_var (i := 4) rfl (.inl rfl) nd_words nc_words) (ce_var (i := 5) rfl (.inl rfl) nd_k nc_k))))
    css_nil) css_nil)
    (css_cons (cs_ite hC (ct_cmp hC (op_eqAll hu) vk_eq (ce_var (i := 3) rfl (.inl rfl) nd_way nc_way) ce_int (by rfl)) (css_cons (cs_setX hC hu (ce_ix hC hu (ce_var (i := 4) rfl (.inl rfl) nd_words nc_words) (ce_bin hC op_sub vk_sub (ce_var (i := 5) rfl (.inl rfl) nd_k nc_k) ce_int) (fun _ _ => rfl)) (ce_var (i := 4) rfl (.inl rfl) nd_words nc_words) (ce_var (i := 5) rfl (.inl rfl) nd_k nc_k))
    css_nil) css_nil)
    (css_cons (cs_ite hC (ct_cmp hC (op_eqAll hu) vk_eq (ce_var (i := 3) rfl (.inl rfl) nd_way nc_way) ce_int (by rfl)) (css_cons (cs_asg (i := 6) hC sc__law_words.nd rfl (.inl rfl) (.inl rfl) (ce_lst hC (.cons (ce_str s0_e s0_b) (nostar rfl) (.cons (ce_str s37_e s37_b) (nostar rfl) (.cons (ce_str s36_e s36_b) (nostar rfl) (.cons (ce_str s35_e s35_b) (nostar rfl) (.cons (ce_str s34_e s34_b) (nostar rfl) (.cons (ce_str s33_e s33_b) (nostar rfl) (.cons (ce_str s1_e s1_b) (nostar rfl) (.cons (ce_str s32_e s32_b) (nostar rfl) (.cons (ce_bin hC op_addAll vk_add (ce_str s31_e s31_b) (ce_bin hC op_mulAll vk_mul (ce_str s0_e s0_b) ce_int)) (nostar rfl) (.cons (ce_bin hC op_mulAll vk_mul (ce_str s30_e s30_b) ce_int) (nostar rfl) .nil))))))))))))
    (css_cons (cs_asg (i := 6) hC sc__law_words.nd rfl (.inl rfl) (.inl rfl) (ce_bin hC op_addAll vk_add (ce_var (i := 6) rfl (.inl rfl) nd_some nc_some) (ce_lst hC (.cons (ce_bin hC op_mulAll vk_mul (ce_str s30_e s30_b) ce_int) (nostar rfl) (.cons (ce_str s29_e s29_b) (nostar rfl) (.cons (ce_str s28_e s28_b) (nostar rfl) (.cons (ce_str s27_e s27_b) (nostar rfl) .nil)))))))
    (css_cons (cs_setX hC hu (ce_ix hC hu (ce_var (i := 6) rfl (.inl rfl) nd_some nc_some) (ce_bin hC op_mod vk_mod (ce_var (i := 2) rfl (.inl rfl) nd_rest nc_rest) ce_int) (fun _ _ => rfl)) (ce_var (i := 4) rfl (.inl rfl) nd_words nc_words) (ce_bin hC op_sub vk_sub (ce_bin hC op_sub vk_sub (ce_callB hC call_lenAll vk_len (.cons (ce_var (i := 4) rfl (.inl rfl) nd_words nc_words) (nostar rfl) .nil) (by rfl) t.n_len (by decide +kernel)) ce_int) (ce_bin hC op_fdiv vk_fdiv (ce_var (i := 5) rfl (.inl rfl) nd_k nc_k) ce_int)))
    css_nil))) css_nil)
    (css_cons (cs_ret hC (ce_bm hC PySem.F.plainAttrs_str PySem.F.slot_str_join PySem.F.type_str_join mt_join vm_join ty_join (ce_str s2_e s2_b) (.cons (ce_var (i := 4) rfl (.inl rfl) nd_words nc_words) (nostar rfl) .nil)))
    css_nil)))))))
theorem wk__law_spoiled {A : Ads} (t : Txt B K mg) {n : Nat} (c : All w K mg base B A n) (F : Funs K mg A) (cl : Clss K B A) : FnOk PP w K mg base (L2.CX PP w) (2 * (n + 1)) A.a__law_spoiled A.d__law_spoiled ["text", "cell"] (spOf (GG B) K (n + 1) 24) :=
  def_ok F.u__law_spoiled sc__law_spoiled rfl fun cdv Ar outer s H E hr => by
  have hC := wpCall_mono (GG B).T (GG B).F n
  have hu := hu_of' hr
  have hp : PassesOwn (model (cxOf (L2.CX PP w) PP w K mg base ["text", "cell", "signs", "number", "way", "place", "rest", "some"] "_law_spoiled" (defScope (top 76)) A.a__law_spoiled cdv Ar outer s H E).prog (cxOf (L2.CX PP w) PP w K mg base ["text", "cell", "signs", "number", "way", "place", "rest", "some"] "_law_spoiled" (defScope (top 76)) A.a__law_spoiled cdv Ar outer s H E).w) (cxOf (L2.CX PP w) PP w K mg base ["text", "cell", "signs", "number", "way", "place", "rest", "some"] "_law_spoiled" (defScope (top 76)) A.a__law_spoiled cdv Ar outer s H E).A (cxOf (L2.CX PP w) PP w K mg base ["text", "cell", "signs", "number", "way", "place", "rest", "some"] "_law_spoiled" (defScope (top 76)) A.a__law_spoiled cdv Ar outer s H E).env (cxOf (L2.CX PP w) PP w K mg base ["text", "cell", "signs", "number", "way", "place", "rest", "some"] "_law_spoiled" (defScope (top 76)) A.a__law_spoiled cdv Ar outer s H E).xe := passes_of rfl
  exact (css_cons (cs_asg (i := 2) hC sc__law_spoiled.nd rfl (.inl rfl) (.inl rfl) (ce_str s44_e s44_b))
    (css_cons (cs_asg (i := 2) hC sc__law_spoiled.nd rfl (.inl rfl) (.inl rfl) (ce_bin hC op_addAll vk_add (ce_var (i := 2) rfl (.inl rfl) nd_signs nc_signs) (ce_str s43_e s43_b)))
    (css_cons (cs_asg (i := 3) hC sc__law_spoiled.nd rfl (.inl rfl) (.inl rfl) (ce_bin hC op_mod vk_mod (ce_bin hC op_addAll vk_add (ce_bin hC op_mulAll vk_mul (ce_bin hC op_mod vk_mod (ce_var (i := 1) rfl (.inl rfl) nd_cell nc_cell) ce_int) ce_int) ce_int) ce_int))
    (css_cons (cs_asg (i := 4) hC sc__law_spoiled.nd rfl (.inl rfl) (.inl rfl) (ce_bin hC op_mod vk_mod (ce_var (i := 3) rfl (.inl rfl) nd_number nc_number) ce_int))
    (css_cons (cs_asg (i := 5) hC sc__law_spoiled.nd rfl (.inl rfl) (.inl rfl) (ce_bin hC op_mod vk_mod (ce_bin hC op_fdiv vk_fdiv (ce_var (i := 3) rfl (.inl rfl) nd_number nc_number) ce_int) (ce_bin hC op_addAll vk_add (ce_callB hC call_lenAll vk_len (.cons (ce_var (i := 0) rfl (.inl rfl) nd_text nc_text) (nostar rfl) .nil) (by rfl) t.n_len (by decide +kernel)) ce_int)))
    (css_cons (cs_asg (i := 6) hC sc__law_spoiled.nd rfl (.inl rfl) (.inl rfl) (ce_bin hC op_fdiv vk_fdiv (ce_var (i := 3) rfl (.inl rfl) nd_number nc_number) ce_int))
    (css_cons (cs_ite hC (ct_cmp hC (op_ltAll hu) vk_lt (ce_var (i := 4) rfl (.inl rfl) nd_way nc_way) ce_int (by rfl)) (css_cons (cs_ret hC (ce_call (c.f__law_signs) hr (by rfl) (.cons (ce_var (i := 0) rfl (.inl rfl) nd_text nc_text) (nostar rfl) (.cons (ce_var (i := 5) rfl (.inl rfl) nd_place nc_place) (nostar rfl) (.cons (ce_ix hC hu (ce_var (i := 2) rfl (.inl rfl) nd_signs nc_signs) (ce_bin hC op_mod vk_mod (ce_var (i := 6) rfl (.inl rfl) nd_rest nc_rest) (ce_callB hC call_lenAll vk_len (.cons (ce_var (i := 2) rfl (.inl rfl) nd_signs nc_signs) (nostar rfl) .nil) (by rfl) t.n_len (by decide +kernel))) (fun _ _ => rfl)) (nostar rfl) (.cons (ce_var (i := 4) rfl (.inl rfl) nd_way nc_way) (nostar rfl) .nil))))))
    css_nil) css_nil)
    (css_cons (cs_ite hC (ct_cmp hC (op_ltAll hu) vk_lt (ce_var (i := 4) rfl (.inl rfl) nd_way nc_way) ce_int (by rfl)) (css_cons (cs_ret hC (ce_call (c.f__law_words) hr (by rfl) (.cons (ce_var (i := 0) rfl (.inl rfl) nd_text nc_text) (nostar rfl) (.cons (ce_var (i := 5) rfl (.inl rfl) nd_place nc_place) (nostar rfl) (.cons (ce_var (i := 6) rfl (.inl rfl) nd_rest nc_rest) (nostar rfl) (.cons (ce_var (i := 4) rfl (.inl rfl) nd_way nc_way) (nostar rfl) .nil))))))
    css_nil) css_nil)
    (css_cons (cs_ite hC (ct_cmp hC (op_eqAll hu) vk_eq (ce_var (i := 4) rfl (.inl rfl) nd_way nc_way) ce_int (by rfl)) (css_cons (cs_ret hC (ce_bin hC op_addAll vk_add (ce_var (i := 0) rfl (.inl rfl) nd_text nc_text) (ce_bin hC op_mulAll vk_mul (ce_str s42_e s42_b) (ce_bin hC op_addAll vk_add ce_int (ce_bin hC op_mod vk_mod (ce_var (i := 6) rfl (.inl rfl) nd_rest nc_rest) ce_int)))))
    css_nil) css_nil)
    (css_cons (cs_asg (i := 7) hC sc__law_spoiled.nd rfl (.inl rfl) (.inl rfl) (ce_lst hC (.cons ce_non (nostar rfl) (.cons ce_int (nostar rfl) (.cons ce_bl (nostar rfl) (.cons (ce_lst hC (.cons (ce_var (i := 0) rfl (.inl rfl) nd_text nc_text) (nostar rfl) .nil)) (nostar rfl) (.cons (ce_tup hC (.cons (ce_var (i := 0) rfl (.inl rfl) nd_text nc_text) (nostar rfl) .nil)) (nostar rfl) (.cons (ce_dnT hC) (nostar rfl) (.cons (ce_str s1_e s1_b) (nostar rfl) (.cons (ce_str s2_e s2_b) (nostar rfl) (.cons (ce_str s41_e s41_b) (nostar rfl) (.cons (ce_str s40_e s40_b) (nostar rfl) (.cons (ce_str s39_e s39_b) (nostar rfl) .nil)))))))))))))
    (css_cons (cs_asg (i := 7) hC sc__law_spoiled.nd rfl (.inl rfl) (.inl rfl) (ce_bin hC op_addAll vk_add (ce_var (i := 7) rfl (.inl rfl) nd_some nc_some) (ce_lst hC (.cons (ce_str s18_e s18_b) (nostar rfl) (.cons (ce_str s38_e s38_b) (nostar rfl) (.cons (ce_str s8_e s8_b) (nostar rfl) (.cons (ce_str s7_e s7_b) (nostar rfl) .nil)))))))
    (css_cons (cs_ret hC (ce_ix hC hu (ce_var (i := 7) rfl (.inl rfl) nd_some nc_some) (ce_bin hC op_mod vk_mod (ce_var (i := 6) rfl (.inl rfl) nd_rest nc_rest) ce_int) (fun _ _ => rfl)))
    css_nil))))))))))))
theorem wk__law_told {A : Ads} (t : Txt B K mg) {n : Nat} (c : All w K mg base B A n) (F : Funs K mg A) (cl : Clss K B A) : FnOk PP w K mg base (L2.CX PP w) (2 * (n + 1)) A.a__law_told A.d__law_told ["row"] (spOf (GG B) K (n + 1) 25) :=
  def_ok F.u__law_told sc__law_told rfl fun cdv Ar outer s H E hr => by
  have hC := wpCall_mono (GG B).T (GG B).F n
  have hu := hu_of' hr
  have hp : PassesOwn (model (cxOf (L2.CX PP w) PP w K mg base ["row", "found", "kinds", "e"] "_law_told" (defScope (top 77)) A.a__law_told cdv Ar outer s H E).prog (cxOf (L2.CX PP w) PP w K mg base ["row", "found", "kinds", "e"] "_law_told" (defScope (top 77)) A.a__law_told cdv Ar outer s H E).w) (cxOf (L2.CX PP w) PP w K mg base ["row", "found", "kinds", "e"] "_law_told" (defScope (top 77)) A.a__law_told cdv Ar outer s H E).A (cxOf (L2.CX PP w) PP w K mg base ["row", "found", "kinds", "e"] "_law_told" (defScope (top 77)) A.a__law_told cdv Ar outer s H E).env (cxOf (L2.CX PP w) PP w K mg base ["row", "found", "kinds", "e"] "_law_told" (defScope (top 77)) A.a__law_told cdv Ar outer s H E).xe := passes_of rfl
  exact (css_cons (cs_asg (i := 1) hC sc__law_told.nd rfl (.inl rfl) (.inl rfl) ce_non)
    (css_cons (cs_asg (i := 2) hC sc__law_told.nd rfl (.inl rfl) (.inl rfl) ce_non)
    (css_cons (cs_tryC (i := 1) (ie := 3) (cc := 0) hC rfl rfl sc__law_told.nd rfl (.inl rfl) (.inl rfl) rfl rfl ⟨by rfl, nd_HallError, .inl t.m_HallError⟩ rfl t.xm_HallError (fun _ _ => (ce_call (c.f_read) hr (by rfl) (.cons (ce_var (i := 0) rfl (.inl rfl) nd_row nc_row) (nostar rfl) .nil))) (fun _ _ _ _ _ hk hz hf => (hss_cons (hs_asg (i := 2) hC sc__law_told.nd rfl (.inl rfl) (.inl rfl) (by decide) (he_lst hC (.cons (he_isE (ie := 3) (cl := (.own 9)) (t.ec _ _ hk) hz hf rfl (.inl rfl) nd_e nc_e (pe_own (by rfl) t.m_NoRow nd_NoRow) (.own _) (t.kt_NoRow _ _ hk) (by rfl) t.n_isinstance) (nostar rfl) (.cons (he_isE (ie := 3) (cl := .valErr) (t.ec _ _ hk) hz hf rfl (.inl rfl) nd_e nc_e (pe_bty (by rfl) t.n_ValueError (by decide +kernel)) (.ty _) (t.kt_ValueError _ _ hk) (by rfl) t.n_isinstance) (nostar rfl) (.cons (he_isET (ie := 3) (cls := [(.own 1), (.own 2), (.own 3), (.own 4)]) (t.ec _ _ hk) hz hf rfl (.inl rfl) nd_e nc_e (by decide +kernel) (.cons (pe_own (by rfl) t.m_NoName nd_NoName) (.own _) (t.kt_NoName _ _ hk) (nostar rfl) (.cons (pe_own (by rfl) t.m_NoAmount nd_NoAmount) (.own _) (t.kt_NoAmount _ _ hk) (nostar rfl) (.cons (pe_own (by rfl) t.m_NoLeg nd_NoLeg) (.own _) (t.kt_NoLeg _ _ hk) (nostar rfl) (.cons (pe_own (by rfl) t.m_NotWaiting nd_NotWaiting) (.own _) (t.kt_NotWaiting _ _ hk) (nostar rfl) .nil)))) (by rfl) t.n_isinstance) (nostar rfl) (.cons (he_isET (ie := 3) (cls := [(.own 5), (.own 6), (.own 7), (.own 8), (.own 10)]) (t.ec _ _ hk) hz hf rfl (.inl rfl) nd_e nc_e (by decide +kernel) (.cons (pe_own (by rfl) t.m_Twice nd_Twice) (.own _) (t.kt_Twice _ _ hk) (nostar rfl) (.cons (pe_own (by rfl) t.m_TooLittle nd_TooLittle) (.own _) (t.kt_TooLittle _ _ hk) (nostar rfl) (.cons (pe_own (by rfl) t.m_NotNow nd_NotNow) (.own _) (t.kt_NotNow _ _ hk) (nostar rfl) (.cons (pe_own (by rfl) t.m_NotForetold nd_NotForetold) (.own _) (t.kt_NotForetold _ _ hk) (nostar rfl) (.cons (pe_own (by rfl) t.m_NoBack nd_NoBack) (.own _) (t.kt_NoBack _ _ hk) (nostar rfl) .nil))))) (by rfl) t.n_isinstance) (nostar rfl) .nil))))))
    hss_nil)))
    (css_cons (cs_ret hC (ce_tup hC (.cons (ce_var (i := 1) rfl (.inl rfl) nd_found nc_found) (nostar rfl) (.cons (ce_var (i := 2) rfl (.inl rfl) nd_kinds nc_kinds) (nostar rfl) .nil))))
    css_nil))))
theorem wk_law {A : Ads} (t : Txt B K mg) {n : Nat} (c : All w K mg base B A n) (F : Funs K mg A) (cl : Clss K B A) : FnOk PP w K mg base (L2.CX PP w) (2 * (n + 1)) A.a_law A.d_law ["script"] (spOf (GG B) K (n + 1) 26) :=
  def_ok F.u_law sc_law rfl fun cdv Ar outer s H E hr => by
  have hC := wpCall_mono (GG B).T (GG B).F n
  have hu := hu_of' hr
  have hp : PassesOwn (model (cxOf (L2.CX PP w) PP w K mg base ["script", "k", "cells", "row", "found", "kinds", "j"] "law" (defScope (top 78)) A.a_law cdv Ar outer s H E).prog (cxOf (L2.CX PP w) PP w K mg base ["script", "k", "cells", "row", "found", "kinds", "j"] "law" (defScope (top 78)) A.a_law cdv Ar outer s H E).w) (cxOf (L2.CX PP w) PP w K mg base ["script", "k", "cells", "row", "found", "kinds", "j"] "law" (defScope (top 78)) A.a_law cdv Ar outer s H E).A (cxOf (L2.CX PP w) PP w K mg base ["script", "k", "cells", "row", "found", "kinds", "j"] "law" (defScope (top 78)) A.a_law cdv Ar outer s H E).env (cxOf (L2.CX PP w) PP w K mg base ["script", "k", "cells", "row", "found", "kinds", "j"] "law" (defScope (top 78)) A.a_law cdv Ar outer s H E).xe := passes_of rfl
  exact (css_cons (cs_for1 (i := 1) hC hp rfl sc_law.nd rfl (.inr rfl) (.inl rfl) (ci_rng3 hC (by rfl) t.n_range ce_int (ce_callB hC (call_min2 rfl) vk_min2 (.cons (ce_callB hC call_lenAll vk_len (.cons (ce_var (i := 0) rfl (.inr (.inl rfl)) nd_script nc_script) (nostar rfl) .nil) (by rfl) t.n_len (by decide +kernel)) (nostar rfl) (.cons ce_int (nostar rfl) .nil)) (by rfl) t.n_min (by decide +kernel)) ce_int) (css_cons (cs_asgLc hC (CompR.mk (i := 6) (mt := none) rfl sc_law.nd (ci_rng1 hC (by rfl) t.n_range ce_int) (show BlkOk ["script", "k", "cells", "row", "found", "kinds", "j"] (defScope (top 78)) _ _ from ⟨rfl, by decide +kernel, by decide +kernel, by decide +kernel, by decide +kernel⟩) (fun _ _ _ _ _ => pg_name sc_law.nd rfl (.inl rfl)) (fun _ _ _ _ _ => pts_nil) (fun _ _ _ _ _ => (ce_bin hC op_mod vk_mod (ce_call (c.f__law_cell_at) hr (by rfl) (.cons (ce_var (i := 0) rfl (.inr (.inl rfl)) nd_script nc_script) (nostar rfl) (.cons (ce_bin hC op_addAll vk_add (ce_var (i := 1) rfl (.inr (.inl rfl)) nd_k nc_k) (ce_var (i := 6) rfl (.inl rfl) nd_j nc_j)) (nostar rfl) .nil))) (ce_bin hC op_pow vk_pow ce_int ce_int))) (fun _ => rfl)) rfl rfl (sw_true rfl rfl rfl (by decide +kernel)))
    (css_cons (cs_asg (i := 3) hC sc_law.nd rfl (.inl rfl) (.inl rfl) (ce_call (c.f__law_spoiled) hr (by rfl) (.cons (ce_ix hC hu (ce_call (c.f__law_made) hr (by rfl) (.cons (ce_ix hC hu (ce_var (i := 2) rfl (.inl rfl) nd_cells nc_cells) ce_int (fun _ _ => rfl)) (nostar rfl) (.cons (ce_ix hC hu (ce_var (i := 2) rfl (.inl rfl) nd_cells nc_cells) ce_int (fun _ _ => rfl)) (nostar rfl) (.cons (ce_ix hC hu (ce_var (i := 2) rfl (.inl rfl) nd_cells nc_cells) ce_int (fun _ _ => rfl)) (nostar rfl) .nil)))) ce_int (fun _ _ => rfl)) (nostar rfl) (.cons (ce_ix hC hu (ce_var (i := 2) rfl (.inl rfl) nd_cells nc_cells) ce_int (fun _ _ => rfl)) (nostar rfl) .nil))))
    (css_cons (cs_asgT (is := [4, 5]) hC rfl (.cons sc_law.nd rfl (.inl rfl) (.inl rfl) (.cons sc_law.nd rfl (.inl rfl) (.inl rfl) .nil rfl) rfl) (ce_call (c.f__law_told) hr (by rfl) (.cons (ce_var (i := 3) rfl (.inl rfl) nd_row nc_row) (nostar rfl) .nil)))
    (css_cons (cs_ite hC (ct_not hC (ct_val (ce_call (c.f__law_good) hr (by rfl) (.cons (ce_var (i := 3) rfl (.inl rfl) nd_row nc_row) (nostar rfl) .nil)) (fun _ => rfl) hC)) (css_cons (cs_ite hC (ct_cmp hC (op_neAll hu) vk_ne (ce_var (i := 5) rfl (.inl rfl) nd_kinds nc_kinds) (ce_lst hC (.cons ce_bl (nostar rfl) (.cons ce_bl (nostar rfl) (.cons ce_bl (nostar rfl) (.cons ce_bl (nostar rfl) .nil))))) (by rfl)) (css_cons (cs_ret hC ce_bl)
    css_nil) css_nil)
    css_nil) (css_cons (cs_ite hC (CW.ct (cw_or hC (ct_notN hC (ce_var (i := 5) rfl (.inl rfl) nd_kinds nc_kinds)) (cw_or1 (ct_cmp hC (op_neAll hu) vk_ne (ce_meth0 (mi := 0) ⟨fun c0 C0 g h1 h2 => met_row c cl c0 C0 g h1 h2⟩ rfl nmi hr (ce_var (i := 4) rfl (.inl rfl) nd_found nc_found)) (ce_var (i := 3) rfl (.inl rfl) nd_row nc_row) (by rfl))))) (css_cons (cs_ret hC ce_bl)
    css_nil) css_nil)
    css_nil))
    css_nil)))))
    (css_cons (cs_ret hC ce_bl)
    css_nil))
theorem wk_Lay___init__ {A : Ads} (t : Txt B K mg) {n : Nat} (c : All w K mg base B A n) (F : Funs K mg A) (cl : Clss K B A) : FnOk PP w K mg base (L2.CX PP w) (2 * (n + 1)) A.a_Lay___init__ A.d_Lay___init__ ["self", "shelf", "amount"] (spOf (GG B) K (n + 1) 27) :=
  def_ok F.u_Lay___init__ sc_Lay___init__ rfl fun cdv Ar outer s H E hr => by
  have hC := wpCall_mono (GG B).T (GG B).F n
  have hu := hu_of' hr
  have hp : PassesOwn (model (cxOf (L2.CX PP w) PP w K mg base ["self", "shelf", "amount"] "Lay.__init__" (defScope (mth 46 0)) A.a_Lay___init__ cdv Ar outer s H E).prog (cxOf (L2.CX PP w) PP w K mg base ["self", "shelf", "amount"] "Lay.__init__" (defScope (mth 46 0)) A.a_Lay___init__ cdv Ar outer s H E).w) (cxOf (L2.CX PP w) PP w K mg base ["self", "shelf", "amount"] "Lay.__init__" (defScope (mth 46 0)) A.a_Lay___init__ cdv Ar outer s H E).A (cxOf (L2.CX PP w) PP w K mg base ["self", "shelf", "amount"] "Lay.__init__" (defScope (mth 46 0)) A.a_Lay___init__ cdv Ar outer s H E).env (cxOf (L2.CX PP w) PP w K mg base ["self", "shelf", "amount"] "Lay.__init__" (defScope (mth 46 0)) A.a_Lay___init__ cdv Ar outer s H E).xe := passes_of rfl
  exact (css_cons (cs_setA (f := 1) hC t.cls t.na_shelf rfl nmi (ce_var (i := 1) rfl (.inl rfl) nd_shelf nc_shelf) (ce_var (i := 0) rfl (.inl rfl) nd_self nc_self))
    (css_cons (cs_setA (f := 2) hC t.cls t.na_amount rfl nmi (ce_var (i := 2) rfl (.inl rfl) nd_amount nc_amount) (ce_var (i := 0) rfl (.inl rfl) nd_self nc_self))
    css_nil))
theorem wk_Lay_row {A : Ads} (t : Txt B K mg) {n : Nat} (c : All w K mg base B A n) (F : Funs K mg A) (cl : Clss K B A) : FnOk PP w K mg base (L2.CX PP w) (2 * (n + 1)) A.a_Lay_row A.d_Lay_row ["self"] (spOf (GG B) K (n + 1) 28) :=
  def_ok F.u_Lay_row sc_Lay_row rfl fun cdv Ar outer s H E hr => by
  have hC := wpCall_mono (GG B).T (GG B).F n
  have hu := hu_of' hr
  have hp : PassesOwn (model (cxOf (L2.CX PP w) PP w K mg base ["self"] "Lay.row" (defScope (mth 46 2)) A.a_Lay_row cdv Ar outer s H E).prog (cxOf (L2.CX PP w) PP w K mg base ["self"] "Lay.row" (defScope (mth 46 2)) A.a_Lay_row cdv Ar outer s H E).w) (cxOf (L2.CX PP w) PP w K mg base ["self"] "Lay.row" (defScope (mth 46 2)) A.a_Lay_row cdv Ar outer s H E).A (cxOf (L2.CX PP w) PP w K mg base ["self"] "Lay.row" (defScope (mth 46 2)) A.a_Lay_row cdv Ar outer s H E).env (cxOf (L2.CX PP w) PP w K mg base ["self"] "Lay.row" (defScope (mth 46 2)) A.a_Lay_row cdv Ar outer s H E).xe := passes_of rfl
  exact (css_cons (cs_ret hC (ce_bin hC op_addAll vk_add (ce_bin hC op_addAll vk_add (ce_bin hC op_addAll vk_add (ce_str s25_e s25_b) (ce_bm hC PySem.F.plainAttrs_str PySem.F.slot_str_join PySem.F.type_str_join mt_join vm_join ty_join (ce_str s2_e s2_b) (.cons (ce_attr (f := 1) hC t.cls t.na_shelf rfl nmi (ce_var (i := 0) rfl (.inl rfl) nd_self nc_self)) (nostar rfl) .nil))) (ce_str s2_e s2_b)) (ce_callTy hC call_str_int vk_str1 (.cons (ce_attr (f := 2) hC t.cls t.na_amount rfl nmi (ce_var (i := 0) rfl (.inl rfl) nd_self nc_self)) (nostar rfl) .nil) (by rfl) t.n_str (by decide +kernel))))
    css_nil)
theorem wk_Take___init__ {A : Ads} (t : Txt B K mg) {n : Nat} (c : All w K mg base B A n) (F : Funs K mg A) (cl : Clss K B A) : FnOk PP w K mg base (L2.CX PP w) (2 * (n + 1)) A.a_Take___init__ A.d_Take___init__ ["self", "shelf", "amount"] (spOf (GG B) K (n + 1) 29) :=
  def_ok F.u_Take___init__ sc_Take___init__ rfl fun cdv Ar outer s H E hr => by
  have hC := wpCall_mono (GG B).T (GG B).F n
  have hu := hu_of' hr
  have hp : PassesOwn (model (cxOf (L2.CX PP w) PP w K mg base ["self", "shelf", "amount"] "Take.__init__" (defScope (mth 47 0)) A.a_Take___init__ cdv Ar outer s H E).prog (cxOf (L2.CX PP w) PP w K mg base ["self", "shelf", "amount"] "Take.__init__" (defScope (mth 47 0)) A.a_Take___init__ cdv Ar outer s H E).w) (cxOf (L2.CX PP w) PP w K mg base ["self", "shelf", "amount"] "Take.__init__" (defScope (mth 47 0)) A.a_Take___init__ cdv Ar outer s H E).A (cxOf (L2.CX PP w) PP w K mg base ["self", "shelf", "amount"] "Take.__init__" (defScope (mth 47 0)) A.a_Take___init__ cdv Ar outer s H E).env (cxOf (L2.CX PP w) PP w K mg base ["self", "shelf", "amount"] "Take.__init__" (defScope (mth 47 0)) A.a_Take___init__ cdv Ar outer s H E).xe := passes_of rfl
  exact (css_cons (cs_setA (f := 1) hC t.cls t.na_shelf rfl nmi (ce_var (i := 1) rfl (.inl rfl) nd_shelf nc_shelf) (ce_var (i := 0) rfl (.inl rfl) nd_self nc_self))
    (css_cons (cs_setA (f := 2) hC t.cls t.na_amount rfl nmi (ce_var (i := 2) rfl (.inl rfl) nd_amount nc_amount) (ce_var (i := 0) rfl (.inl rfl) nd_self nc_self))
    css_nil))
theorem wk_Take_row {A : Ads} (t : Txt B K mg) {n : Nat} (c : All w K mg base B A n) (F : Funs K mg A) (cl : Clss K B A) : FnOk PP w K mg base (L2.CX PP w) (2 * (n + 1)) A.a_Take_row A.d_Take_row ["self"] (spOf (GG B) K (n + 1) 30) :=
  def_ok F.u_Take_row sc_Take_row rfl fun cdv Ar outer s H E hr => by
  have hC := wpCall_mono (GG B).T (GG B).F n
  have hu := hu_of' hr
  have hp : PassesOwn (model (cxOf (L2.CX PP w) PP w K mg base ["self"] "Take.row" (defScope (mth 47 2)) A.a_Take_row cdv Ar outer s H E).prog (cxOf (L2.CX PP w) PP w K mg base ["self"] "Take.row" (defScope (mth 47 2)) A.a_Take_row cdv Ar outer s H E).w) (cxOf (L2.CX PP w) PP w K mg base ["self"] "Take.row" (defScope (mth 47 2)) A.a_Take_row cdv Ar outer s H E).A (cxOf (L2.CX PP w) PP w K mg base ["self"] "Take.row" (defScope (mth 47 2)) A.a_Take_row cdv Ar outer s H E).env (cxOf (L2.CX PP w) PP w K mg base ["self"] "Take.row" (defScope (mth 47 2)) A.a_Take_row cdv Ar outer s H E).xe := passes_of rfl
  exact (css_cons (cs_ret hC (ce_bin hC op_addAll vk_add (ce_bin hC op_addAll vk_add (ce_bin hC op_addAll vk_add (ce_str s24_e s24_b) (ce_bm hC PySem.F.plainAttrs_str PySem.F.slot_str_join PySem.F.type_str_join mt_join vm_join ty_join (ce_str s2_e s2_b) (.cons (ce_attr (f := 1) hC t.cls t.na_shelf rfl nmi (ce_var (i := 0) rfl (.inl rfl) nd_self nc_self)) (nostar rfl) .nil))) (ce_str s2_e s2_b)) (ce_callTy hC call_str_int vk_str1 (.cons (ce_attr (f := 2) hC t.cls t.na_amount rfl nmi (ce_var (i := 0) rfl (.inl rfl) nd_self nc_self)) (nostar rfl) .nil) (by rfl) t.n_str (by decide +kernel))))
    css_nil)
theorem wk_Line___init__ {A : Ads} (t : Txt B K mg) {n : Nat} (c : All w K mg base B A n) (F : Funs K mg A) (cl : Clss K B A) : FnOk PP w K mg base (L2.CX PP w) (2 * (n + 1)) A.a_Line___init__ A.d_Line___init__ ["self", "shelf", "line"] (spOf (GG B) K (n + 1) 31) :=
  def_ok F.u_Line___init__ sc_Line___init__ rfl fun cdv Ar outer s H E hr => by
  have hC := wpCall_mono (GG B).T (GG B).F n
  have hu := hu_of' hr
  have hp : PassesOwn (model (cxOf (L2.CX PP w) PP w K mg base ["self", "shelf", "line"] "Line.__init__" (defScope (mth 48 0)) A.a_Line___init__ cdv Ar outer s H E).prog (cxOf (L2.CX PP w) PP w K mg base ["self", "shelf", "line"] "Line.__init__" (defScope (mth 48 0)) A.a_Line___init__ cdv Ar outer s H E).w) (cxOf (L2.CX PP w) PP w K mg base ["self", "shelf", "line"] "Line.__init__" (defScope (mth 48 0)) A.a_Line___init__ cdv Ar outer s H E).A (cxOf (L2.CX PP w) PP w K mg base ["self", "shelf", "line"] "Line.__init__" (defScope (mth 48 0)) A.a_Line___init__ cdv Ar outer s H E).env (cxOf (L2.CX PP w) PP w K mg base ["self", "shelf", "line"] "Line.__init__" (defScope (mth 48 0)) A.a_Line___init__ cdv Ar outer s H E).xe := passes_of rfl
  exact (css_cons (cs_setA (f := 1) hC t.cls t.na_shelf rfl nmi (ce_var (i := 1) rfl (.inl rfl) nd_shelf nc_shelf) (ce_var (i := 0) rfl (.inl rfl) nd_self nc_self))
    (css_cons (cs_setA (f := 3) hC t.cls t.na_line rfl nmi (ce_var (i := 2) rfl (.inl rfl) nd_line nc_line) (ce_var (i := 0) rfl (.inl rfl) nd_self nc_self))
    css_nil))
theorem wk_Line_row {A : Ads} (t : Txt B K mg) {n : Nat} (c : All w K mg base B A n) (F : Funs K mg A) (cl : Clss K B A) : FnOk PP w K mg base (L2.CX PP w) (2 * (n + 1)) A.a_Line_row A.d_Line_row ["self"] (spOf (GG B) K (n + 1) 32) :=
  def_ok F.u_Line_row sc_Line_row rfl fun cdv Ar outer s H E hr => by
  have hC := wpCall_mono (GG B).T (GG B).F n
  have hu := hu_of' hr
  have hp : PassesOwn (model (cxOf (L2.CX PP w) PP w K mg base ["self"] "Line.row" (defScope (mth 48 2)) A.a_Line_row cdv Ar outer s H E).prog (cxOf (L2.CX PP w) PP w K mg base ["self"] "Line.row" (defScope (mth 48 2)) A.a_Line_row cdv Ar outer s H E).w) (cxOf (L2.CX PP w) PP w K mg base ["self"] "Line.row" (defScope (mth 48 2)) A.a_Line_row cdv Ar outer s H E).A (cxOf (L2.CX PP w) PP w K mg base ["self"] "Line.row" (defScope (mth 48 2)) A.a_Line_row cdv Ar outer s H E).env (cxOf (L2.CX PP w) PP w K mg base ["self"] "Line.row" (defScope (mth 48 2)) A.a_Line_row cdv Ar outer s H E).xe := passes_of rfl
  exact (css_cons (cs_ret hC (ce_bin hC op_addAll vk_add (ce_bin hC op_addAll vk_add (ce_bin hC op_addAll vk_add (ce_str s23_e s23_b) (ce_bm hC PySem.F.plainAttrs_str PySem.F.slot_str_join PySem.F.type_str_join mt_join vm_join ty_join (ce_str s2_e s2_b) (.cons (ce_attr (f := 1) hC t.cls t.na_shelf rfl nmi (ce_var (i := 0) rfl (.inl rfl) nd_self nc_self)) (nostar rfl) .nil))) (ce_str s2_e s2_b)) (ce_callTy hC call_str_int vk_str1 (.cons (ce_attr (f := 3) hC t.cls t.na_line rfl nmi (ce_var (i := 0) rfl (.inl rfl) nd_self nc_self)) (nostar rfl) .nil) (by rfl) t.n_str (by decide +kernel))))
    css_nil)
theorem wk_Offer___init__ {A : Ads} (t : Txt B K mg) {n : Nat} (c : All w K mg base B A n) (F : Funs K mg A) (cl : Clss K B A) : FnOk PP w K mg base (L2.CX PP w) (2 * (n + 1)) A.a_Offer___init__ A.d_Offer___init__ ["self", "deal"] (spOf (GG B) K (n + 1) 33) :=
  def_ok F.u_Offer___init__ sc_Offer___init__ rfl fun cdv Ar outer s H E hr => by
  have hC := wpCall_mono (GG B).T (GG B).F n
  have hu := hu_of' hr
  have hp : PassesOwn (model (cxOf (L2.CX PP w) PP w K mg base ["self", "deal"] "Offer.__init__" (defScope (mth 49 0)) A.a_Offer___init__ cdv Ar outer s H E).prog (cxOf (L2.CX PP w) PP w K mg base ["self", "deal"] "Offer.__init__" (defScope (mth 49 0)) A.a_Offer___init__ cdv Ar outer s H E).w) (cxOf (L2.CX PP w) PP w K mg base ["self", "deal"] "Offer.__init__" (defScope (mth 49 0)) A.a_Offer___init__ cdv Ar outer s H E).A (cxOf (L2.CX PP w) PP w K mg base ["self", "deal"] "Offer.__init__" (defScope (mth 49 0)) A.a_Offer___init__ cdv Ar outer s H E).env (cxOf (L2.CX PP w) PP w K mg base ["self", "deal"] "Offer.__init__" (defScope (mth 49 0)) A.a_Offer___init__ cdv Ar outer s H E).xe := passes_of rfl
  exact (css_cons (cs_setA (f := 4) hC t.cls t.na_deal rfl nmi (ce_var (i := 1) rfl (.inl rfl) nd_deal nc_deal) (ce_var (i := 0) rfl (.inl rfl) nd_self nc_self))
    css_nil)
theorem wk_Offer_row {A : Ads} (t : Txt B K mg) {n : Nat} (c : All w K mg base B A n) (F : Funs K mg A) (cl : Clss K B A) : FnOk PP w K mg base (L2.CX PP w) (2 * (n + 1)) A.a_Offer_row A.d_Offer_row ["self"] (spOf (GG B) K (n + 1) 34) :=
  def_ok F.u_Offer_row sc_Offer_row rfl fun cdv Ar outer s H E hr => by
  have hC := wpCall_mono (GG B).T (GG B).F n
  have hu := hu_of' hr
  have hp : PassesOwn (model (cxOf (L2.CX PP w) PP w K mg base ["self", "legs", "leg"] "Offer.row" (defScope (mth 49 2)) A.a_Offer_row cdv Ar outer s H E).prog (cxOf (L2.CX PP w) PP w K mg base ["self", "legs", "leg"] "Offer.row" (defScope (mth 49 2)) A.a_Offer_row cdv Ar outer s H E).w) (cxOf (L2.CX PP w) PP w K mg base ["self", "legs", "leg"] "Offer.row" (defScope (mth 49 2)) A.a_Offer_row cdv Ar outer s H E).A (cxOf (L2.CX PP w) PP w K mg base ["self", "legs", "leg"] "Offer.row" (defScope (mth 49 2)) A.a_Offer_row cdv Ar outer s H E).env (cxOf (L2.CX PP w) PP w K mg base ["self", "legs", "leg"] "Offer.row" (defScope (mth 49 2)) A.a_Offer_row cdv Ar outer s H E).xe := passes_of rfl
  exact (css_cons (cs_asgLc hC (CompR.mk (i := 2) (mt := none) rfl sc_Offer_row.nd (ci_seq hC (ce_ix hC hu (ce_attr (f := 4) hC t.cls t.na_deal rfl nmi (ce_var (i := 0) rfl (.inl rfl) nd_self nc_self)) ce_int (fun _ _ => rfl))) (show BlkOk ["self", "legs", "leg"] (defScope (mth 49 2)) _ _ from ⟨rfl, by decide +kernel, by decide +kernel, by decide +kernel, by decide +kernel⟩) (fun _ _ _ _ _ => pg_name sc_Offer_row.nd rfl (.inl rfl)) (fun _ _ _ _ _ => pts_nil) (fun _ _ _ _ _ => (ce_bin hC op_addAll vk_add (ce_bin hC op_addAll vk_add (ce_bm hC PySem.F.plainAttrs_str PySem.F.slot_str_join PySem.F.type_str_join mt_join vm_join ty_join (ce_str s2_e s2_b) (.cons (ce_cutH hC (ce_var (i := 2) rfl (.inl rfl) nd_leg nc_leg) ce_int) (nostar rfl) .nil)) (ce_str s2_e s2_b)) (ce_callTy hC call_str_int vk_str1 (.cons (ce_ix hC hu (ce_var (i := 2) rfl (.inl rfl) nd_leg nc_leg) ce_int (fun _ _ => rfl)) (nostar rfl) .nil) (by rfl) t.n_str (by decide +kernel)))) (fun _ => rfl)) rfl rfl (sw_true rfl rfl rfl (by decide +kernel)))
    (css_cons (cs_ret hC (ce_bin hC op_addAll vk_add (ce_bin hC op_addAll vk_add (ce_bin hC op_addAll vk_add (ce_str s10_e s10_b) (ce_ix hC hu (ce_attr (f := 4) hC t.cls t.na_deal rfl nmi (ce_var (i := 0) rfl (.inl rfl) nd_self nc_self)) ce_int (fun _ _ => rfl))) (ce_str s2_e s2_b)) (ce_bm hC PySem.F.plainAttrs_str PySem.F.slot_str_join PySem.F.type_str_join mt_join vm_join ty_join (ce_str s3_e s3_b) (.cons (ce_var (i := 1) rfl (.inl rfl) nd_legs nc_legs) (nostar rfl) .nil))))
    css_nil))
theorem wk_Off___init__ {A : Ads} (t : Txt B K mg) {n : Nat} (c : All w K mg base B A n) (F : Funs K mg A) (cl : Clss K B A) : FnOk PP w K mg base (L2.CX PP w) (2 * (n + 1)) A.a_Off___init__ A.d_Off___init__ ["self", "name"] (spOf (GG B) K (n + 1) 35) :=
  def_ok F.u_Off___init__ sc_Off___init__ rfl fun cdv Ar outer s H E hr => by
  have hC := wpCall_mono (GG B).T (GG B).F n
  have hu := hu_of' hr
  have hp : PassesOwn (model (cxOf (L2.CX PP w) PP w K mg base ["self", "name"] "Off.__init__" (defScope (mth 50 0)) A.a_Off___init__ cdv Ar outer s H E).prog (cxOf (L2.CX PP w) PP w K mg base ["self", "name"] "Off.__init__" (defScope (mth 50 0)) A.a_Off___init__ cdv Ar outer s H E).w) (cxOf (L2.CX PP w) PP w K mg base ["self", "name"] "Off.__init__" (defScope (mth 50 0)) A.a_Off___init__ cdv Ar outer s H E).A (cxOf (L2.CX PP w) PP w K mg base ["self", "name"] "Off.__init__" (defScope (mth 50 0)) A.a_Off___init__ cdv Ar outer s H E).env (cxOf (L2.CX PP w) PP w K mg base ["self", "name"] "Off.__init__" (defScope (mth 50 0)) A.a_Off___init__ cdv Ar outer s H E).xe := passes_of rfl
  exact (css_cons (cs_setA (f := 5) hC t.cls t.na_name rfl nmi (ce_var (i := 1) rfl (.inl rfl) nd_name nc_name) (ce_var (i := 0) rfl (.inl rfl) nd_self nc_self))
    css_nil)
theorem wk_Off_row {A : Ads} (t : Txt B K mg) {n : Nat} (c : All w K mg base B A n) (F : Funs K mg A) (cl : Clss K B A) : FnOk PP w K mg base (L2.CX PP w) (2 * (n + 1)) A.a_Off_row A.d_Off_row ["self"] (spOf (GG B) K (n + 1) 36) :=
  def_ok F.u_Off_row sc_Off_row rfl fun cdv Ar outer s H E hr => by
  have hC := wpCall_mono (GG B).T (GG B).F n
  have hu := hu_of' hr
  have hp : PassesOwn (model (cxOf (L2.CX PP w) PP w K mg base ["self"] "Off.row" (defScope (mth 50 2)) A.a_Off_row cdv Ar outer s H E).prog (cxOf (L2.CX PP w) PP w K mg base ["self"] "Off.row" (defScope (mth 50 2)) A.a_Off_row cdv Ar outer s H E).w) (cxOf (L2.CX PP w) PP w K mg base ["self"] "Off.row" (defScope (mth 50 2)) A.a_Off_row cdv Ar outer s H E).A (cxOf (L2.CX PP w) PP w K mg base ["self"] "Off.row" (defScope (mth 50 2)) A.a_Off_row cdv Ar outer s H E).env (cxOf (L2.CX PP w) PP w K mg base ["self"] "Off.row" (defScope (mth 50 2)) A.a_Off_row cdv Ar outer s H E).xe := passes_of rfl
  exact (css_cons (cs_ret hC (ce_bin hC op_addAll vk_add (ce_str s22_e s22_b) (ce_attr (f := 5) hC t.cls t.na_name rfl nmi (ce_var (i := 0) rfl (.inl rfl) nd_self nc_self))))
    css_nil)
theorem wk_Put___init__ {A : Ads} (t : Txt B K mg) {n : Nat} (c : All w K mg base B A n) (F : Funs K mg A) (cl : Clss K B A) : FnOk PP w K mg base (L2.CX PP w) (2 * (n + 1)) A.a_Put___init__ A.d_Put___init__ ["self", "shelf", "name", "place"] (spOf (GG B) K (n + 1) 37) :=
  def_ok F.u_Put___init__ sc_Put___init__ rfl fun cdv Ar outer s H E hr => by
  have hC := wpCall_mono (GG B).T (GG B).F n
  have hu := hu_of' hr
  have hp : PassesOwn (model (cxOf (L2.CX PP w) PP w K mg base ["self", "shelf", "name", "place"] "Put.__init__" (defScope (mth 51 0)) A.a_Put___init__ cdv Ar outer s H E).prog (cxOf (L2.CX PP w) PP w K mg base ["self", "shelf", "name", "place"] "Put.__init__" (defScope (mth 51 0)) A.a_Put___init__ cdv Ar outer s H E).w) (cxOf (L2.CX PP w) PP w K mg base ["self", "shelf", "name", "place"] "Put.__init__" (defScope (mth 51 0)) A.a_Put___init__ cdv Ar outer s H E).A (cxOf (L2.CX PP w) PP w K mg base ["self", "shelf", "name", "place"] "Put.__init__" (defScope (mth 51 0)) A.a_Put___init__ cdv Ar outer s H E).env (cxOf (L2.CX PP w) PP w K mg base ["self", "shelf", "name", "place"] "Put.__init__" (defScope (mth 51 0)) A.a_Put___init__ cdv Ar outer s H E).xe := passes_of rfl
  exact (css_cons (cs_setA (f := 1) hC t.cls t.na_shelf rfl nmi (ce_var (i := 1) rfl (.inl rfl) nd_shelf nc_shelf) (ce_var (i := 0) rfl (.inl rfl) nd_self nc_self))
    (css_cons (cs_setA (f := 5) hC t.cls t.na_name rfl nmi (ce_var (i := 2) rfl (.inl rfl) nd_name nc_name) (ce_var (i := 0) rfl (.inl rfl) nd_self nc_self))
    (css_cons (cs_setA (f := 6) hC t.cls t.na_place rfl nmi (ce_var (i := 3) rfl (.inl rfl) nd_place nc_place) (ce_var (i := 0) rfl (.inl rfl) nd_self nc_self))
    css_nil)))
theorem wk_Put_row {A : Ads} (t : Txt B K mg) {n : Nat} (c : All w K mg base B A n) (F : Funs K mg A) (cl : Clss K B A) : FnOk PP w K mg base (L2.CX PP w) (2 * (n + 1)) A.a_Put_row A.d_Put_row ["self"] (spOf (GG B) K (n + 1) 38) :=
  def_ok F.u_Put_row sc_Put_row rfl fun cdv Ar outer s H E hr => by
  have hC := wpCall_mono (GG B).T (GG B).F n
  have hu := hu_of' hr
  have hp : PassesOwn (model (cxOf (L2.CX PP w) PP w K mg base ["self"] "Put.row" (defScope (mth 51 2)) A.a_Put_row cdv Ar outer s H E).prog (cxOf (L2.CX PP w) PP w K mg base ["self"] "Put.row" (defScope (mth 51 2)) A.a_Put_row cdv Ar outer s H E).w) (cxOf (L2.CX PP w) PP w K mg base ["self"] "Put.row" (defScope (mth 51 2)) A.a_Put_row cdv Ar outer s H E).A (cxOf (L2.CX PP w) PP w K mg base ["self"] "Put.row" (defScope (mth 51 2)) A.a_Put_row cdv Ar outer s H E).env (cxOf (L2.CX PP w) PP w K mg base ["self"] "Put.row" (defScope (mth 51 2)) A.a_Put_row cdv Ar outer s H E).xe := passes_of rfl
  exact (css_cons (cs_ret hC (ce_bin hC op_addAll vk_add (ce_bin hC op_addAll vk_add (ce_bin hC op_addAll vk_add (ce_bin hC op_addAll vk_add (ce_bin hC op_addAll vk_add (ce_str s21_e s21_b) (ce_bm hC PySem.F.plainAttrs_str PySem.F.slot_str_join PySem.F.type_str_join mt_join vm_join ty_join (ce_str s2_e s2_b) (.cons (ce_attr (f := 1) hC t.cls t.na_shelf rfl nmi (ce_var (i := 0) rfl (.inl rfl) nd_self nc_self)) (nostar rfl) .nil))) (ce_str s2_e s2_b)) (ce_attr (f := 5) hC t.cls t.na_name rfl nmi (ce_var (i := 0) rfl (.inl rfl) nd_self nc_self))) (ce_str s2_e s2_b)) (ce_callTy hC call_str_int vk_str1 (.cons (ce_attr (f := 6) hC t.cls t.na_place rfl nmi (ce_var (i := 0) rfl (.inl rfl) nd_self nc_self)) (nostar rfl) .nil) (by rfl) t.n_str (by decide +kernel))))
    css_nil)
theorem wk_Bell_row {A : Ads} (t : Txt B K mg) {n : Nat} (c : All w K mg base B A n) (F : Funs K mg A) (cl : Clss K B A) : FnOk PP w K mg base (L2.CX PP w) (2 * (n + 1)) A.a_Bell_row A.d_Bell_row ["self"] (spOf (GG B) K (n + 1) 39) :=
  def_ok F.u_Bell_row sc_Bell_row rfl fun cdv Ar outer s H E hr => by
  have hC := wpCall_mono (GG B).T (GG B).F n
  have hu := hu_of' hr
  have hp : PassesOwn (model (cxOf (L2.CX PP w) PP w K mg base ["self"] "Bell.row" (defScope (mth 52 1)) A.a_Bell_row cdv Ar outer s H E).prog (cxOf (L2.CX PP w) PP w K mg base ["self"] "Bell.row" (defScope (mth 52 1)) A.a_Bell_row cdv Ar outer s H E).w) (cxOf (L2.CX PP w) PP w K mg base ["self"] "Bell.row" (defScope (mth 52 1)) A.a_Bell_row cdv Ar outer s H E).A (cxOf (L2.CX PP w) PP w K mg base ["self"] "Bell.row" (defScope (mth 52 1)) A.a_Bell_row cdv Ar outer s H E).env (cxOf (L2.CX PP w) PP w K mg base ["self"] "Bell.row" (defScope (mth 52 1)) A.a_Bell_row cdv Ar outer s H E).xe := passes_of rfl
  exact (css_cons (cs_ret hC (ce_str s9_e s9_b))
    css_nil)
theorem all_zero {A : Ads} (F : Funs K mg A) : All w K mg base B A 0 where
  f_is_name := ⟨fn_zero, F.g_is_name, F.u_is_name.2, F.b_is_name⟩
  f_is_amount := ⟨fn_zero, F.g_is_amount, F.u_is_amount.2, F.b_is_amount⟩
  f_is_leg := ⟨fn_zero, F.g_is_leg, F.u_is_leg.2, F.b_is_leg⟩
  f_deal_of := ⟨fn_zero, F.g_deal_of, F.u_deal_of.2, F.b_deal_of⟩
  f_name_in := ⟨fn_zero, F.g_name_in, F.u_name_in.2, F.b_name_in⟩
  f_number_in := ⟨fn_zero, F.g_number_in, F.u_number_in.2, F.b_number_in⟩
  f_amount_in := ⟨fn_zero, F.g_amount_in, F.u_amount_in.2, F.b_amount_in⟩
  f_leg_in := ⟨fn_zero, F.g_leg_in, F.u_leg_in.2, F.b_leg_in⟩
  f_offer_in := ⟨fn_zero, F.g_offer_in, F.u_offer_in.2, F.b_offer_in⟩
  f_shelf_deed := ⟨fn_zero, F.g_shelf_deed, F.u_shelf_deed.2, F.b_shelf_deed⟩
  f_read := ⟨fn_zero, F.g_read, F.u_read.2, F.b_read⟩
  f__law_cell_at := ⟨fn_zero, F.g__law_cell_at, F.u__law_cell_at.2, F.b__law_cell_at⟩
  f__law_name := ⟨fn_zero, F.g__law_name, F.u__law_name.2, F.b__law_name⟩
  f__law_amount := ⟨fn_zero, F.g__law_amount, F.u__law_amount.2, F.b__law_amount⟩
  f__law_leg := ⟨fn_zero, F.g__law_leg, F.u__law_leg.2, F.b__law_leg⟩
  f__law_leg_text := ⟨fn_zero, F.g__law_leg_text, F.u__law_leg_text.2, F.b__law_leg_text⟩
  f__law_made := ⟨fn_zero, F.g__law_made, F.u__law_made.2, F.b__law_made⟩
  f__law_word := ⟨fn_zero, F.g__law_word, F.u__law_word.2, F.b__law_word⟩
  f__law_figures := ⟨fn_zero, F.g__law_figures, F.u__law_figures.2, F.b__law_figures⟩
  f__law_is_leg := ⟨fn_zero, F.g__law_is_leg, F.u__law_is_leg.2, F.b__law_is_leg⟩
  f__law_is_deal := ⟨fn_zero, F.g__law_is_deal, F.u__law_is_deal.2, F.b__law_is_deal⟩
  f__law_good := ⟨fn_zero, F.g__law_good, F.u__law_good.2, F.b__law_good⟩
  f__law_signs := ⟨fn_zero, F.g__law_signs, F.u__law_signs.2, F.b__law_signs⟩
  f__law_words := ⟨fn_zero, F.g__law_words, F.u__law_words.2, F.b__law_words⟩
  f__law_spoiled := ⟨fn_zero, F.g__law_spoiled, F.u__law_spoiled.2, F.b__law_spoiled⟩
  f__law_told := ⟨fn_zero, F.g__law_told, F.u__law_told.2, F.b__law_told⟩
  f_law := ⟨fn_zero, F.g_law, F.u_law.2, F.b_law⟩
  f_Lay___init__ := ⟨fn_zero, F.b_Lay___init__⟩
  f_Lay_row := ⟨fn_zero, F.b_Lay_row⟩
  f_Take___init__ := ⟨fn_zero, F.b_Take___init__⟩
  f_Take_row := ⟨fn_zero, F.b_Take_row⟩
  f_Line___init__ := ⟨fn_zero, F.b_Line___init__⟩
  f_Line_row := ⟨fn_zero, F.b_Line_row⟩
  f_Offer___init__ := ⟨fn_zero, F.b_Offer___init__⟩
  f_Offer_row := ⟨fn_zero, F.b_Offer_row⟩
  f_Off___init__ := ⟨fn_zero, F.b_Off___init__⟩
  f_Off_row := ⟨fn_zero, F.b_Off_row⟩
  f_Put___init__ := ⟨fn_zero, F.b_Put___init__⟩
  f_Put_row := ⟨fn_zero, F.b_Put_row⟩
  f_Bell_row := ⟨fn_zero, F.b_Bell_row⟩
theorem all_succ {A : Ads} (t : Txt B K mg) (F : Funs K mg A) (cl : Clss K B A) {n : Nat} (c : All w K mg base B A n) : All w K mg base B A (n + 1) where
  f_is_name := ⟨wk_is_name t c F cl, F.g_is_name, F.u_is_name.2, F.b_is_name⟩
  f_is_amount := ⟨wk_is_amount t c F cl, F.g_is_amount, F.u_is_amount.2, F.b_is_amount⟩
  f_is_leg := ⟨wk_is_leg t c F cl, F.g_is_leg, F.u_is_leg.2, F.b_is_leg⟩
  f_deal_of := ⟨wk_deal_of t c F cl, F.g_deal_of, F.u_deal_of.2, F.b_deal_of⟩
  f_name_in := ⟨wk_name_in t c F cl, F.g_name_in, F.u_name_in.2, F.b_name_in⟩
  f_number_in := ⟨wk_number_in t c F cl, F.g_number_in, F.u_number_in.2, F.b_number_in⟩
  f_amount_in := ⟨wk_amount_in t c F cl, F.g_amount_in, F.u_amount_in.2, F.b_amount_in⟩
  f_leg_in := ⟨wk_leg_in t c F cl, F.g_leg_in, F.u_leg_in.2, F.b_leg_in⟩
  f_offer_in := ⟨wk_offer_in t c F cl, F.g_offer_in, F.u_offer_in.2, F.b_offer_in⟩
  f_shelf_deed := ⟨wk_shelf_deed t c F cl, F.g_shelf_deed, F.u_shelf_deed.2, F.b_shelf_deed⟩
  f_read := ⟨wk_read t c F cl, F.g_read, F.u_read.2, F.b_read⟩
  f__law_cell_at := ⟨wk__law_cell_at t c F cl, F.g__law_cell_at, F.u__law_cell_at.2, F.b__law_cell_at⟩
  f__law_name := ⟨wk__law_name t c F cl, F.g__law_name, F.u__law_name.2, F.b__law_name⟩
  f__law_amount := ⟨wk__law_amount t c F cl, F.g__law_amount, F.u__law_amount.2, F.b__law_amount⟩
  f__law_leg := ⟨wk__law_leg t c F cl, F.g__law_leg, F.u__law_leg.2, F.b__law_leg⟩
  f__law_leg_text := ⟨wk__law_leg_text t c F cl, F.g__law_leg_text, F.u__law_leg_text.2, F.b__law_leg_text⟩
  f__law_made := ⟨wk__law_made t c F cl, F.g__law_made, F.u__law_made.2, F.b__law_made⟩
  f__law_word := ⟨wk__law_word t c F cl, F.g__law_word, F.u__law_word.2, F.b__law_word⟩
  f__law_figures := ⟨wk__law_figures t c F cl, F.g__law_figures, F.u__law_figures.2, F.b__law_figures⟩
  f__law_is_leg := ⟨wk__law_is_leg t c F cl, F.g__law_is_leg, F.u__law_is_leg.2, F.b__law_is_leg⟩
  f__law_is_deal := ⟨wk__law_is_deal t c F cl, F.g__law_is_deal, F.u__law_is_deal.2, F.b__law_is_deal⟩
  f__law_good := ⟨wk__law_good t c F cl, F.g__law_good, F.u__law_good.2, F.b__law_good⟩
  f__law_signs := ⟨wk__law_signs t c F cl, F.g__law_signs, F.u__law_signs.2, F.b__law_signs⟩
  f__law_words := ⟨wk__law_words t c F cl, F.g__law_words, F.u__law_words.2, F.b__law_words⟩
  f__law_spoiled := ⟨wk__law_spoiled t c F cl, F.g__law_spoiled, F.u__law_spoiled.2, F.b__law_spoiled⟩
  f__law_told := ⟨wk__law_told t c F cl, F.g__law_told, F.u__law_told.2, F.b__law_told⟩
  f_law := ⟨wk_law t c F cl, F.g_law, F.u_law.2, F.b_law⟩
  f_Lay___init__ := ⟨wk_Lay___init__ t c F cl, F.b_Lay___init__⟩
  f_Lay_row := ⟨wk_Lay_row t c F cl, F.b_Lay_row⟩
  f_Take___init__ := ⟨wk_Take___init__ t c F cl, F.b_Take___init__⟩
  f_Take_row := ⟨wk_Take_row t c F cl, F.b_Take_row⟩
  f_Line___init__ := ⟨wk_Line___init__ t c F cl, F.b_Line___init__⟩
  f_Line_row := ⟨wk_Line_row t c F cl, F.b_Line_row⟩
  f_Offer___init__ := ⟨wk_Offer___init__ t c F cl, F.b_Offer___init__⟩
  f_Offer_row := ⟨wk_Offer_row t c F cl, F.b_Offer_row⟩
  f_Off___init__ := ⟨wk_Off___init__ t c F cl, F.b_Off___init__⟩
  f_Off_row := ⟨wk_Off_row t c F cl, F.b_Off_row⟩
  f_Put___init__ := ⟨wk_Put___init__ t c F cl, F.b_Put___init__⟩
  f_Put_row := ⟨wk_Put_row t c F cl, F.b_Put_row⟩
  f_Bell_row := ⟨wk_Bell_row t c F cl, F.b_Bell_row⟩
theorem all_n {A : Ads} (t : Txt B K mg) (F : Funs K mg A) (cl : Clss K B A) : ∀ n, All w K mg base B A n
  | 0 => all_zero F
  | n + 1 => all_succ t F cl (all_n t F cl n)
end
end Lk62
namespace Lk62
open PySem PySem.Spec PyProof.Rows L2 Mp
theorem kex_inv {B : CAd} {k : Nat} {C0 : Addr} (h : (GG B).N.kex k = some C0) : (k = 1 ∧ C0 = B.c_NoName) ∨ (k = 3 ∧ C0 = B.c_NoLeg) ∨ (k = 9 ∧ C0 = B.c_NoRow) := by
  unfold GG at h; simp only at h; split at h <;> simp_all
set_option maxHeartbeats 0 in
theorem all_mk {w : World} {K : PySem.W.Frag} {h : Heap} {mg : Str → Option Value} {fa : Addr} (X : K.In h) (G : h.Ns mainGlobals mg) (hfa : mg "law" = some (.ref fa))
    {cl_HallError cl_NoName cl_NoAmount cl_NoLeg cl_NotWaiting cl_Twice cl_TooLittle cl_NotNow cl_NotForetold cl_NoRow cl_NoBack cl_Lay cl_Take cl_Line cl_Offer cl_Off cl_Put cl_Bell : Addr}
    {f0 f1 f2 f3 f4 f5 f6 f7 f8 f9 f10 f11 f12 f13 f14 f15 f16 f17 f18 f19 f20 f21 f22 f23 f24 f25 f26 f27 f28 f29 f30 f31 f32 f33 f34 f35 f36 f37 f38 f39 : Addr}
    {od0 an0 od1 an1 od2 an2 od3 an3 od4 an4 od5 an5 od6 an6 od7 an7 od8 an8 od9 an9 od10 an10 od11 an11 od12 an12 od13 an13 od14 an14 od15 an15 od16 an16 od17 an17 od18 an18 od19 an19 od20 an20 od21 an21 od22 an22 od23 an23 od24 an24 od25 an25 od26 an26 od27 an27 od28 an28 od29 an29 od30 an30 od31 an31 od32 an32 od33 an33 od34 an34 od35 an35 od36 an36 od37 an37 od38 an38 od39 an39 : Option Addr}
    {sl0 sl1 sl2 sl3 sl4 sl5 sl6 sl7 sl8 sl9 sl10 sl11 sl12 sl13 sl14 sl15 sl16 sl17 sl18 sl19 sl20 sl21 sl22 sl23 sl24 sl25 sl26 sl27 sl28 sl29 sl30 sl31 sl32 sl33 sl34 sl35 sl36 sl37 sl38 sl39 : Array (Option Value)}
    {oc0 kV0 dc0 pm0 cd0 ct0 oc1 kV1 dc1 pm1 cd1 ct1 oc2 kV2 dc2 pm2 cd2 ct2 oc3 kV3 dc3 pm3 cd3 ct3 oc4 kV4 dc4 pm4 cd4 ct4 oc5 kV5 dc5 pm5 cd5 ct5 oc6 kV6 dc6 pm6 cd6 ct6 oc7 kV7 dc7 pm7 cd7 ct7 oc8 kV8 dc8 pm8 cd8 ct8 oc9 kV9 dc9 pm9 cd9 ct9 oc10 kV10 dc10 pm10 cd10 ct10 oc11 kV11 dc11 pm11 cd11 ct11 oc12 kV12 dc12 pm12 cd12 ct12 oc13 kV13 dc13 pm13 cd13 ct13 oc14 kV14 dc14 pm14 cd14 ct14 oc15 kV15 dc15 pm15 cd15 ct15 oc16 kV16 dc16 pm16 cd16 ct16 oc17 kV17 dc17 pm17 cd17 ct17 oc18 kV18 dc18 pm18 cd18 ct18 oc19 kV19 dc19 pm19 cd19 ct19 oc20 kV20 dc20 pm20 cd20 ct20 oc21 kV21 dc21 pm21 cd21 ct21 oc22 kV22 dc22 pm22 cd22 ct22 oc23 kV23 dc23 pm23 cd23 ct23 oc24 kV24 dc24 pm24 cd24 ct24 oc25 kV25 dc25 pm25 cd25 ct25 oc26 kV26 dc26 pm26 cd26 ct26 oc27 kV27 dc27 pm27 cd27 ct27 oc28 kV28 dc28 pm28 cd28 ct28 oc29 kV29 dc29 pm29 cd29 ct29 oc30 kV30 dc30 pm30 cd30 ct30 oc31 kV31 dc31 pm31 cd31 ct31 oc32 kV32 dc32 pm32 cd32 ct32 oc33 kV33 dc33 pm33 cd33 ct33 oc34 kV34 dc34 pm34 cd34 ct34 oc35 kV35 dc35 pm35 cd35 ct35 oc36 kV36 dc36 pm36 cd36 ct36 oc37 kV37 dc37 pm37 cd37 ct37 oc38 kV38 dc38 pm38 cd38 ct38 oc39 kV39 dc39 pm39 cd39 ct39 : Value}
    {u_LETTERS : Value}
    {u_FIGURES : Value}
    (a0 : PySem.W.nsIn K mainGlobals "is_name" = some (some (.ref f0)))
    (l0 : K.lookup f0 = some ⟨oc0, od0, .func (PySem.W.fnOf "is_name" "is_name" (defArgs (top 21)) (defBody (top 21)) (defScope (top 21)) .none kV0 dc0 pm0 an0 cd0 ct0), sl0⟩)
    (c0 : PySem.W.codeIn K cd0 "is_name" = true)
    (k0 : PySem.W.keepIn K (.ref f0) = true)
    (a1 : PySem.W.nsIn K mainGlobals "is_amount" = some (some (.ref f1)))
    (l1 : K.lookup f1 = some ⟨oc1, od1, .func (PySem.W.fnOf "is_amount" "is_amount" (defArgs (top 22)) (defBody (top 22)) (defScope (top 22)) .none kV1 dc1 pm1 an1 cd1 ct1), sl1⟩)
    (c1 : PySem.W.codeIn K cd1 "is_amount" = true)
    (k1 : PySem.W.keepIn K (.ref f1) = true)
    (a2 : PySem.W.nsIn K mainGlobals "is_leg" = some (some (.ref f2)))
    (l2 : K.lookup f2 = some ⟨oc2, od2, .func (PySem.W.fnOf "is_leg" "is_leg" (defArgs (top 24)) (defBody (top 24)) (defScope (top 24)) .none kV2 dc2 pm2 an2 cd2 ct2), sl2⟩)
    (c2 : PySem.W.codeIn K cd2 "is_leg" = true)
    (k2 : PySem.W.keepIn K (.ref f2) = true)
    (a3 : PySem.W.nsIn K mainGlobals "deal_of" = some (some (.ref f3)))
    (l3 : K.lookup f3 = some ⟨oc3, od3, .func (PySem.W.fnOf "deal_of" "deal_of" (defArgs (top 25)) (defBody (top 25)) (defScope (top 25)) .none kV3 dc3 pm3 an3 cd3 ct3), sl3⟩)
    (c3 : PySem.W.codeIn K cd3 "deal_of" = true)
    (k3 : PySem.W.keepIn K (.ref f3) = true)
    (a4 : PySem.W.nsIn K mainGlobals "name_in" = some (some (.ref f4)))
    (l4 : K.lookup f4 = some ⟨oc4, od4, .func (PySem.W.fnOf "name_in" "name_in" (defArgs (top 55)) (defBody (top 55)) (defScope (top 55)) .none kV4 dc4 pm4 an4 cd4 ct4), sl4⟩)
    (c4 : PySem.W.codeIn K cd4 "name_in" = true)
    (k4 : PySem.W.keepIn K (.ref f4) = true)
    (a5 : PySem.W.nsIn K mainGlobals "number_in" = some (some (.ref f5)))
    (l5 : K.lookup f5 = some ⟨oc5, od5, .func (PySem.W.fnOf "number_in" "number_in" (defArgs (top 56)) (defBody (top 56)) (defScope (top 56)) .none kV5 dc5 pm5 an5 cd5 ct5), sl5⟩)
    (c5 : PySem.W.codeIn K cd5 "number_in" = true)
    (k5 : PySem.W.keepIn K (.ref f5) = true)
    (a6 : PySem.W.nsIn K mainGlobals "amount_in" = some (some (.ref f6)))
    (l6 : K.lookup f6 = some ⟨oc6, od6, .func (PySem.W.fnOf "amount_in" "amount_in" (defArgs (top 57)) (defBody (top 57)) (defScope (top 57)) .none kV6 dc6 pm6 an6 cd6 ct6), sl6⟩)
    (c6 : PySem.W.codeIn K cd6 "amount_in" = true)
    (k6 : PySem.W.keepIn K (.ref f6) = true)
    (a7 : PySem.W.nsIn K mainGlobals "leg_in" = some (some (.ref f7)))
    (l7 : K.lookup f7 = some ⟨oc7, od7, .func (PySem.W.fnOf "leg_in" "leg_in" (defArgs (top 58)) (defBody (top 58)) (defScope (top 58)) .none kV7 dc7 pm7 an7 cd7 ct7), sl7⟩)
    (c7 : PySem.W.codeIn K cd7 "leg_in" = true)
    (k7 : PySem.W.keepIn K (.ref f7) = true)
    (a8 : PySem.W.nsIn K mainGlobals "offer_in" = some (some (.ref f8)))
    (l8 : K.lookup f8 = some ⟨oc8, od8, .func (PySem.W.fnOf "offer_in" "offer_in" (defArgs (top 59)) (defBody (top 59)) (defScope (top 59)) .none kV8 dc8 pm8 an8 cd8 ct8), sl8⟩)
    (c8 : PySem.W.codeIn K cd8 "offer_in" = true)
    (k8 : PySem.W.keepIn K (.ref f8) = true)
    (a9 : PySem.W.nsIn K mainGlobals "shelf_deed" = some (some (.ref f9)))
    (l9 : K.lookup f9 = some ⟨oc9, od9, .func (PySem.W.fnOf "shelf_deed" "shelf_deed" (defArgs (top 60)) (defBody (top 60)) (defScope (top 60)) .none kV9 dc9 pm9 an9 cd9 ct9), sl9⟩)
    (c9 : PySem.W.codeIn K cd9 "shelf_deed" = true)
    (k9 : PySem.W.keepIn K (.ref f9) = true)
    (a10 : PySem.W.nsIn K mainGlobals "read" = some (some (.ref f10)))
    (l10 : K.lookup f10 = some ⟨oc10, od10, .func (PySem.W.fnOf "read" "read" (defArgs (top 61)) (defBody (top 61)) (defScope (top 61)) .none kV10 dc10 pm10 an10 cd10 ct10), sl10⟩)
    (c10 : PySem.W.codeIn K cd10 "read" = true)
    (k10 : PySem.W.keepIn K (.ref f10) = true)
    (a11 : PySem.W.nsIn K mainGlobals "_law_cell_at" = some (some (.ref f11)))
    (l11 : K.lookup f11 = some ⟨oc11, od11, .func (PySem.W.fnOf "_law_cell_at" "_law_cell_at" (defArgs (top 63)) (defBody (top 63)) (defScope (top 63)) .none kV11 dc11 pm11 an11 cd11 ct11), sl11⟩)
    (c11 : PySem.W.codeIn K cd11 "_law_cell_at" = true)
    (k11 : PySem.W.keepIn K (.ref f11) = true)
    (a12 : PySem.W.nsIn K mainGlobals "_law_name" = some (some (.ref f12)))
    (l12 : K.lookup f12 = some ⟨oc12, od12, .func (PySem.W.fnOf "_law_name" "_law_name" (defArgs (top 64)) (defBody (top 64)) (defScope (top 64)) .none kV12 dc12 pm12 an12 cd12 ct12), sl12⟩)
    (c12 : PySem.W.codeIn K cd12 "_law_name" = true)
    (k12 : PySem.W.keepIn K (.ref f12) = true)
    (a13 : PySem.W.nsIn K mainGlobals "_law_amount" = some (some (.ref f13)))
    (l13 : K.lookup f13 = some ⟨oc13, od13, .func (PySem.W.fnOf "_law_amount" "_law_amount" (defArgs (top 65)) (defBody (top 65)) (defScope (top 65)) .none kV13 dc13 pm13 an13 cd13 ct13), sl13⟩)
    (c13 : PySem.W.codeIn K cd13 "_law_amount" = true)
    (k13 : PySem.W.keepIn K (.ref f13) = true)
    (a14 : PySem.W.nsIn K mainGlobals "_law_leg" = some (some (.ref f14)))
    (l14 : K.lookup f14 = some ⟨oc14, od14, .func (PySem.W.fnOf "_law_leg" "_law_leg" (defArgs (top 66)) (defBody (top 66)) (defScope (top 66)) .none kV14 dc14 pm14 an14 cd14 ct14), sl14⟩)
    (c14 : PySem.W.codeIn K cd14 "_law_leg" = true)
    (k14 : PySem.W.keepIn K (.ref f14) = true)
    (a15 : PySem.W.nsIn K mainGlobals "_law_leg_text" = some (some (.ref f15)))
    (l15 : K.lookup f15 = some ⟨oc15, od15, .func (PySem.W.fnOf "_law_leg_text" "_law_leg_text" (defArgs (top 67)) (defBody (top 67)) (defScope (top 67)) .none kV15 dc15 pm15 an15 cd15 ct15), sl15⟩)
    (c15 : PySem.W.codeIn K cd15 "_law_leg_text" = true)
    (k15 : PySem.W.keepIn K (.ref f15) = true)
    (a16 : PySem.W.nsIn K mainGlobals "_law_made" = some (some (.ref f16)))
    (l16 : K.lookup f16 = some ⟨oc16, od16, .func (PySem.W.fnOf "_law_made" "_law_made" (defArgs (top 68)) (defBody (top 68)) (defScope (top 68)) .none kV16 dc16 pm16 an16 cd16 ct16), sl16⟩)
    (c16 : PySem.W.codeIn K cd16 "_law_made" = true)
    (k16 : PySem.W.keepIn K (.ref f16) = true)
    (a17 : PySem.W.nsIn K mainGlobals "_law_word" = some (some (.ref f17)))
    (l17 : K.lookup f17 = some ⟨oc17, od17, .func (PySem.W.fnOf "_law_word" "_law_word" (defArgs (top 69)) (defBody (top 69)) (defScope (top 69)) .none kV17 dc17 pm17 an17 cd17 ct17), sl17⟩)
    (c17 : PySem.W.codeIn K cd17 "_law_word" = true)
    (k17 : PySem.W.keepIn K (.ref f17) = true)
    (a18 : PySem.W.nsIn K mainGlobals "_law_figures" = some (some (.ref f18)))
    (l18 : K.lookup f18 = some ⟨oc18, od18, .func (PySem.W.fnOf "_law_figures" "_law_figures" (defArgs (top 70)) (defBody (top 70)) (defScope (top 70)) .none kV18 dc18 pm18 an18 cd18 ct18), sl18⟩)
    (c18 : PySem.W.codeIn K cd18 "_law_figures" = true)
    (k18 : PySem.W.keepIn K (.ref f18) = true)
    (a19 : PySem.W.nsIn K mainGlobals "_law_is_leg" = some (some (.ref f19)))
    (l19 : K.lookup f19 = some ⟨oc19, od19, .func (PySem.W.fnOf "_law_is_leg" "_law_is_leg" (defArgs (top 71)) (defBody (top 71)) (defScope (top 71)) .none kV19 dc19 pm19 an19 cd19 ct19), sl19⟩)
    (c19 : PySem.W.codeIn K cd19 "_law_is_leg" = true)
    (k19 : PySem.W.keepIn K (.ref f19) = true)
    (a20 : PySem.W.nsIn K mainGlobals "_law_is_deal" = some (some (.ref f20)))
    (l20 : K.lookup f20 = some ⟨oc20, od20, .func (PySem.W.fnOf "_law_is_deal" "_law_is_deal" (defArgs (top 72)) (defBody (top 72)) (defScope (top 72)) .none kV20 dc20 pm20 an20 cd20 ct20), sl20⟩)
    (c20 : PySem.W.codeIn K cd20 "_law_is_deal" = true)
    (k20 : PySem.W.keepIn K (.ref f20) = true)
    (a21 : PySem.W.nsIn K mainGlobals "_law_good" = some (some (.ref f21)))
    (l21 : K.lookup f21 = some ⟨oc21, od21, .func (PySem.W.fnOf "_law_good" "_law_good" (defArgs (top 73)) (defBody (top 73)) (defScope (top 73)) .none kV21 dc21 pm21 an21 cd21 ct21), sl21⟩)
    (c21 : PySem.W.codeIn K cd21 "_law_good" = true)
    (k21 : PySem.W.keepIn K (.ref f21) = true)
    (a22 : PySem.W.nsIn K mainGlobals "_law_signs" = some (some (.ref f22)))
    (l22 : K.lookup f22 = some ⟨oc22, od22, .func (PySem.W.fnOf "_law_signs" "_law_signs" (defArgs (top 74)) (defBody (top 74)) (defScope (top 74)) .none kV22 dc22 pm22 an22 cd22 ct22), sl22⟩)
    (c22 : PySem.W.codeIn K cd22 "_law_signs" = true)
    (k22 : PySem.W.keepIn K (.ref f22) = true)
    (a23 : PySem.W.nsIn K mainGlobals "_law_words" = some (some (.ref f23)))
    (l23 : K.lookup f23 = some ⟨oc23, od23, .func (PySem.W.fnOf "_law_words" "_law_words" (defArgs (top 75)) (defBody (top 75)) (defScope (top 75)) .none kV23 dc23 pm23 an23 cd23 ct23), sl23⟩)
    (c23 : PySem.W.codeIn K cd23 "_law_words" = true)
    (k23 : PySem.W.keepIn K (.ref f23) = true)
    (a24 : PySem.W.nsIn K mainGlobals "_law_spoiled" = some (some (.ref f24)))
    (l24 : K.lookup f24 = some ⟨oc24, od24, .func (PySem.W.fnOf "_law_spoiled" "_law_spoiled" (defArgs (top 76)) (defBody (top 76)) (defScope (top 76)) .none kV24 dc24 pm24 an24 cd24 ct24), sl24⟩)
    (c24 : PySem.W.codeIn K cd24 "_law_spoiled" = true)
    (k24 : PySem.W.keepIn K (.ref f24) = true)
    (a25 : PySem.W.nsIn K mainGlobals "_law_told" = some (some (.ref f25)))
    (l25 : K.lookup f25 = some ⟨oc25, od25, .func (PySem.W.fnOf "_law_told" "_law_told" (defArgs (top 77)) (defBody (top 77)) (defScope (top 77)) .none kV25 dc25 pm25 an25 cd25 ct25), sl25⟩)
    (c25 : PySem.W.codeIn K cd25 "_law_told" = true)
    (k25 : PySem.W.keepIn K (.ref f25) = true)
    (a26 : PySem.W.nsIn K mainGlobals "law" = some (some (.ref f26)))
    (l26 : K.lookup f26 = some ⟨oc26, od26, .func (PySem.W.fnOf "law" "law" (defArgs (top 78)) (defBody (top 78)) (defScope (top 78)) .none kV26 dc26 pm26 an26 cd26 ct26), sl26⟩)
    (c26 : PySem.W.codeIn K cd26 "law" = true)
    (k26 : PySem.W.keepIn K (.ref f26) = true)
    (a27 : PySem.W.findIn K (.ref cl_Lay) "__init__" = some (some (.ref f27)))
    (w27 : PySem.W.isFn K (.ref f27) = true)
    (l27 : K.lookup f27 = some ⟨oc27, od27, .func (PySem.W.fnOf "__init__" "Lay.__init__" (defArgs (mth 46 0)) (defBody (mth 46 0)) (defScope (mth 46 0)) .none kV27 dc27 pm27 an27 cd27 ct27), sl27⟩)
    (c27 : PySem.W.codeIn K cd27 "Lay.__init__" = true)
    (k27 : PySem.W.keepIn K (.ref f27) = true)
    (a28 : PySem.W.findIn K (.ref cl_Lay) "row" = some (some (.ref f28)))
    (w28 : PySem.W.isFn K (.ref f28) = true)
    (l28 : K.lookup f28 = some ⟨oc28, od28, .func (PySem.W.fnOf "row" "Lay.row" (defArgs (mth 46 2)) (defBody (mth 46 2)) (defScope (mth 46 2)) .none kV28 dc28 pm28 an28 cd28 ct28), sl28⟩)
    (c28 : PySem.W.codeIn K cd28 "Lay.row" = true)
    (k28 : PySem.W.keepIn K (.ref f28) = true)
    (a29 : PySem.W.findIn K (.ref cl_Take) "__init__" = some (some (.ref f29)))
    (w29 : PySem.W.isFn K (.ref f29) = true)
    (l29 : K.lookup f29 = some ⟨oc29, od29, .func (PySem.W.fnOf "__init__" "Take.__init__" (defArgs (mth 47 0)) (defBody (mth 47 0)) (defScope (mth 47 0)) .none kV29 dc29 pm29 an29 cd29 ct29), sl29⟩)
    (c29 : PySem.W.codeIn K cd29 "Take.__init__" = true)
    (k29 : PySem.W.keepIn K (.ref f29) = true)
    (a30 : PySem.W.findIn K (.ref cl_Take) "row" = some (some (.ref f30)))
    (w30 : PySem.W.isFn K (.ref f30) = true)
    (l30 : K.lookup f30 = some ⟨oc30, od30, .func (PySem.W.fnOf "row" "Take.row" (defArgs (mth 47 2)) (defBody (mth 47 2)) (defScope (mth 47 2)) .none kV30 dc30 pm30 an30 cd30 ct30), sl30⟩)
    (c30 : PySem.W.codeIn K cd30 "Take.row" = true)
    (k30 : PySem.W.keepIn K (.ref f30) = true)
    (a31 : PySem.W.findIn K (.ref cl_Line) "__init__" = some (some (.ref f31)))
    (w31 : PySem.W.isFn K (.ref f31) = true)
    (l31 : K.lookup f31 = some ⟨oc31, od31, .func (PySem.W.fnOf "__init__" "Line.__init__" (defArgs (mth 48 0)) (defBody (mth 48 0)) (defScope (mth 48 0)) .none kV31 dc31 pm31 an31 cd31 ct31), sl31⟩)
    (c31 : PySem.W.codeIn K cd31 "Line.__init__" = true)
    (k31 : PySem.W.keepIn K (.ref f31) = true)
    (a32 : PySem.W.findIn K (.ref cl_Line) "row" = some (some (.ref f32)))
    (w32 : PySem.W.isFn K (.ref f32) = true)
    (l32 : K.lookup f32 = some ⟨oc32, od32, .func (PySem.W.fnOf "row" "Line.row" (defArgs (mth 48 2)) (defBody (mth 48 2)) (defScope (mth 48 2)) .none kV32 dc32 pm32 an32 cd32 ct32), sl32⟩)
    (c32 : PySem.W.codeIn K cd32 "Line.row" = true)
    (k32 : PySem.W.keepIn K (.ref f32) = true)
    (a33 : PySem.W.findIn K (.ref cl_Offer) "__init__" = some (some (.ref f33)))
    (w33 : PySem.W.isFn K (.ref f33) = true)
    (l33 : K.lookup f33 = some ⟨oc33, od33, .func (PySem.W.fnOf "__init__" "Offer.__init__" (defArgs (mth 49 0)) (defBody (mth 49 0)) (defScope (mth 49 0)) .none kV33 dc33 pm33 an33 cd33 ct33), sl33⟩)
    (c33 : PySem.W.codeIn K cd33 "Offer.__init__" = true)
    (k33 : PySem.W.keepIn K (.ref f33) = true)
    (a34 : PySem.W.findIn K (.ref cl_Offer) "row" = some (some (.ref f34)))
    (w34 : PySem.W.isFn K (.ref f34) = true)
    (l34 : K.lookup f34 = some ⟨oc34, od34, .func (PySem.W.fnOf "row" "Offer.row" (defArgs (mth 49 2)) (defBody (mth 49 2)) (defScope (mth 49 2)) .none kV34 dc34 pm34 an34 cd34 ct34), sl34⟩)
    (c34 : PySem.W.codeIn K cd34 "Offer.row" = true)
    (k34 : PySem.W.keepIn K (.ref f34) = true)
    (a35 : PySem.W.findIn K (.ref cl_Off) "__init__" = some (some (.ref f35)))
    (w35 : PySem.W.isFn K (.ref f35) = true)
    (l35 : K.lookup f35 = some ⟨oc35, od35, .func (PySem.W.fnOf "__init__" "Off.__init__" (defArgs (mth 50 0)) (defBody (mth 50 0)) (defScope (mth 50 0)) .none kV35 dc35 pm35 an35 cd35 ct35), sl35⟩)
    (c35 : PySem.W.codeIn K cd35 "Off.__init__" = true)
    (k35 : PySem.W.keepIn K (.ref f35) = true)
    (a36 : PySem.W.findIn K (.ref cl_Off) "row" = some (some (.ref f36)))
    (w36 : PySem.W.isFn K (.ref f36) = true)
    (l36 : K.lookup f36 = some ⟨oc36, od36, .func (PySem.W.fnOf "row" "Off.row" (defArgs (mth 50 2)) (defBody (mth 50 2)) (defScope (mth 50 2)) .none kV36 dc36 pm36 an36 cd36 ct36), sl36⟩)
    (c36 : PySem.W.codeIn K cd36 "Off.row" = true)
    (k36 : PySem.W.keepIn K (.ref f36) = true)
    (a37 : PySem.W.findIn K (.ref cl_Put) "__init__" = some (some (.ref f37)))
    (w37 : PySem.W.isFn K (.ref f37) = true)
    (l37 : K.lookup f37 = some ⟨oc37, od37, .func (PySem.W.fnOf "__init__" "Put.__init__" (defArgs (mth 51 0)) (defBody (mth 51 0)) (defScope (mth 51 0)) .none kV37 dc37 pm37 an37 cd37 ct37), sl37⟩)
    (c37 : PySem.W.codeIn K cd37 "Put.__init__" = true)
    (k37 : PySem.W.keepIn K (.ref f37) = true)
    (a38 : PySem.W.findIn K (.ref cl_Put) "row" = some (some (.ref f38)))
    (w38 : PySem.W.isFn K (.ref f38) = true)
    (l38 : K.lookup f38 = some ⟨oc38, od38, .func (PySem.W.fnOf "row" "Put.row" (defArgs (mth 51 2)) (defBody (mth 51 2)) (defScope (mth 51 2)) .none kV38 dc38 pm38 an38 cd38 ct38), sl38⟩)
    (c38 : PySem.W.codeIn K cd38 "Put.row" = true)
    (k38 : PySem.W.keepIn K (.ref f38) = true)
    (a39 : PySem.W.findIn K (.ref cl_Bell) "row" = some (some (.ref f39)))
    (w39 : PySem.W.isFn K (.ref f39) = true)
    (l39 : K.lookup f39 = some ⟨oc39, od39, .func (PySem.W.fnOf "row" "Bell.row" (defArgs (mth 52 1)) (defBody (mth 52 1)) (defScope (mth 52 1)) .none kV39 dc39 pm39 an39 cd39 ct39), sl39⟩)
    (c39 : PySem.W.codeIn K cd39 "Bell.row" = true)
    (k39 : PySem.W.keepIn K (.ref f39) = true)
    (z_ValueError : PySem.W.nsIn K mainGlobals "ValueError" = some none)
    (z_bool : PySem.W.nsIn K mainGlobals "bool" = some none)
    (z_int : PySem.W.nsIn K mainGlobals "int" = some none)
    (z_isinstance : PySem.W.nsIn K mainGlobals "isinstance" = some none)
    (z_len : PySem.W.nsIn K mainGlobals "len" = some none)
    (z_list : PySem.W.nsIn K mainGlobals "list" = some none)
    (z_min : PySem.W.nsIn K mainGlobals "min" = some none)
    (z_range : PySem.W.nsIn K mainGlobals "range" = some none)
    (z_str : PySem.W.nsIn K mainGlobals "str" = some none)
    (z_tuple : PySem.W.nsIn K mainGlobals "tuple" = some none)
    (v_LETTERS : PySem.W.nsIn K mainGlobals "LETTERS" = some (some u_LETTERS))
    (r_LETTERS : RelV (.str "abcdefghijklmnopqrstuvwxyz") u_LETTERS)
    (v_FIGURES : PySem.W.nsIn K mainGlobals "FIGURES" = some (some u_FIGURES))
    (r_FIGURES : RelV (.str "0123456789") u_FIGURES)
    (mc_HallError : PySem.W.nsIn K mainGlobals "HallError" = some (some (.ref cl_HallError)))
    (mc_NoName : PySem.W.nsIn K mainGlobals "NoName" = some (some (.ref cl_NoName)))
    (mc_NoAmount : PySem.W.nsIn K mainGlobals "NoAmount" = some (some (.ref cl_NoAmount)))
    (mc_NoLeg : PySem.W.nsIn K mainGlobals "NoLeg" = some (some (.ref cl_NoLeg)))
    (mc_NotWaiting : PySem.W.nsIn K mainGlobals "NotWaiting" = some (some (.ref cl_NotWaiting)))
    (mc_Twice : PySem.W.nsIn K mainGlobals "Twice" = some (some (.ref cl_Twice)))
    (mc_TooLittle : PySem.W.nsIn K mainGlobals "TooLittle" = some (some (.ref cl_TooLittle)))
    (mc_NotNow : PySem.W.nsIn K mainGlobals "NotNow" = some (some (.ref cl_NotNow)))
    (mc_NotForetold : PySem.W.nsIn K mainGlobals "NotForetold" = some (some (.ref cl_NotForetold)))
    (mc_NoRow : PySem.W.nsIn K mainGlobals "NoRow" = some (some (.ref cl_NoRow)))
    (mc_NoBack : PySem.W.nsIn K mainGlobals "NoBack" = some (some (.ref cl_NoBack)))
    (mc_Lay : PySem.W.nsIn K mainGlobals "Lay" = some (some (.ref cl_Lay)))
    (mc_Take : PySem.W.nsIn K mainGlobals "Take" = some (some (.ref cl_Take)))
    (mc_Line : PySem.W.nsIn K mainGlobals "Line" = some (some (.ref cl_Line)))
    (mc_Offer : PySem.W.nsIn K mainGlobals "Offer" = some (some (.ref cl_Offer)))
    (mc_Off : PySem.W.nsIn K mainGlobals "Off" = some (some (.ref cl_Off)))
    (mc_Put : PySem.W.nsIn K mainGlobals "Put" = some (some (.ref cl_Put)))
    (mc_Bell : PySem.W.nsIn K mainGlobals "Bell" = some (some (.ref cl_Bell)))
    (x_hn : PySem.W.specialIn K (.builtin "object.__class__") "__get__" = some (some (.builtin "getset_descriptor.__get__")))
    (x_ht : PySem.W.takesIn K (.builtin "object.__class__") = some true)
    (xe_NoName : PySem.W.excIn K cl_NoName [.type "ValueError", .type "Exception", .type "BaseException", .type "object"] "ValueError.__new__" = true)
    (kp_NoName : PySem.W.keepIn K (.ref cl_NoName) = true)
    (sb_NoName : PySem.W.subIn K (.ref cl_NoName) (.type "BaseException") = some true)
    (ty_NoName : PySem.W.typeIn K (.ref cl_NoName) = some (.type "type"))
    (ga_NoName : PySem.W.findIn K (.ref cl_NoName) "__getattribute__" = some (some (.builtin "BaseException.__getattribute__")))
    (gg_NoName : PySem.W.findIn K (.ref cl_NoName) "__getattr__" = some none)
    (hd_NoName : PySem.W.hasDictIn K cl_NoName = true)
    (ca_NoName : PySem.W.findIn K (.ref cl_NoName) "__class__" = some (some (.builtin "object.__class__")))
    (mo_NoName : PySem.W.mroIn K cl_NoName (.type "object") = some true)
    (su_NoName_NoName : PySem.W.subIn K (.ref cl_NoName) (.ref cl_NoName) = some true)
    (sv_NoName : PySem.W.subIn K (.ref cl_NoName) (.type "ValueError") = some true)
    (xe_NoLeg : PySem.W.excIn K cl_NoLeg [.type "ValueError", .type "Exception", .type "BaseException", .type "object"] "ValueError.__new__" = true)
    (kp_NoLeg : PySem.W.keepIn K (.ref cl_NoLeg) = true)
    (sb_NoLeg : PySem.W.subIn K (.ref cl_NoLeg) (.type "BaseException") = some true)
    (ty_NoLeg : PySem.W.typeIn K (.ref cl_NoLeg) = some (.type "type"))
    (ga_NoLeg : PySem.W.findIn K (.ref cl_NoLeg) "__getattribute__" = some (some (.builtin "BaseException.__getattribute__")))
    (gg_NoLeg : PySem.W.findIn K (.ref cl_NoLeg) "__getattr__" = some none)
    (hd_NoLeg : PySem.W.hasDictIn K cl_NoLeg = true)
    (ca_NoLeg : PySem.W.findIn K (.ref cl_NoLeg) "__class__" = some (some (.builtin "object.__class__")))
    (mo_NoLeg : PySem.W.mroIn K cl_NoLeg (.type "object") = some true)
    (su_NoLeg_NoLeg : PySem.W.subIn K (.ref cl_NoLeg) (.ref cl_NoLeg) = some true)
    (sv_NoLeg : PySem.W.subIn K (.ref cl_NoLeg) (.type "ValueError") = some true)
    (xe_NoRow : PySem.W.excIn K cl_NoRow [.type "ValueError", .type "Exception", .type "BaseException", .type "object"] "ValueError.__new__" = true)
    (kp_NoRow : PySem.W.keepIn K (.ref cl_NoRow) = true)
    (sb_NoRow : PySem.W.subIn K (.ref cl_NoRow) (.type "BaseException") = some true)
    (ty_NoRow : PySem.W.typeIn K (.ref cl_NoRow) = some (.type "type"))
    (ga_NoRow : PySem.W.findIn K (.ref cl_NoRow) "__getattribute__" = some (some (.builtin "BaseException.__getattribute__")))
    (gg_NoRow : PySem.W.findIn K (.ref cl_NoRow) "__getattr__" = some none)
    (hd_NoRow : PySem.W.hasDictIn K cl_NoRow = true)
    (ca_NoRow : PySem.W.findIn K (.ref cl_NoRow) "__class__" = some (some (.builtin "object.__class__")))
    (mo_NoRow : PySem.W.mroIn K cl_NoRow (.type "object") = some true)
    (su_NoRow_NoRow : PySem.W.subIn K (.ref cl_NoRow) (.ref cl_NoRow) = some true)
    (sv_NoRow : PySem.W.subIn K (.ref cl_NoRow) (.type "ValueError") = some true)
    (ic_HallError : PySem.W.isClsIn K cl_HallError = true)
    (ty_HallError : PySem.W.typeIn K (.ref cl_HallError) = some (.type "type"))
    (su_NoName_HallError : PySem.W.subIn K (.ref cl_NoName) (.ref cl_HallError) = some true)
    (su_NoLeg_HallError : PySem.W.subIn K (.ref cl_NoLeg) (.ref cl_HallError) = some true)
    (su_NoRow_HallError : PySem.W.subIn K (.ref cl_NoRow) (.ref cl_HallError) = some true)
    (sb_HallError : PySem.W.subIn K (.ref cl_HallError) (.type "BaseException") = some true)
    (hd_HallError : PySem.W.hasDictIn K cl_HallError = true)
    (ic_NoName : PySem.W.isClsIn K cl_NoName = true)
    (su_NoLeg_NoName : PySem.W.subIn K (.ref cl_NoLeg) (.ref cl_NoName) = some false)
    (su_NoRow_NoName : PySem.W.subIn K (.ref cl_NoRow) (.ref cl_NoName) = some false)
    (ic_NoAmount : PySem.W.isClsIn K cl_NoAmount = true)
    (ty_NoAmount : PySem.W.typeIn K (.ref cl_NoAmount) = some (.type "type"))
    (su_NoName_NoAmount : PySem.W.subIn K (.ref cl_NoName) (.ref cl_NoAmount) = some false)
    (su_NoLeg_NoAmount : PySem.W.subIn K (.ref cl_NoLeg) (.ref cl_NoAmount) = some false)
    (su_NoRow_NoAmount : PySem.W.subIn K (.ref cl_NoRow) (.ref cl_NoAmount) = some false)
    (ic_NoLeg : PySem.W.isClsIn K cl_NoLeg = true)
    (su_NoName_NoLeg : PySem.W.subIn K (.ref cl_NoName) (.ref cl_NoLeg) = some false)
    (su_NoRow_NoLeg : PySem.W.subIn K (.ref cl_NoRow) (.ref cl_NoLeg) = some false)
    (ic_NotWaiting : PySem.W.isClsIn K cl_NotWaiting = true)
    (ty_NotWaiting : PySem.W.typeIn K (.ref cl_NotWaiting) = some (.type "type"))
    (su_NoName_NotWaiting : PySem.W.subIn K (.ref cl_NoName) (.ref cl_NotWaiting) = some false)
    (su_NoLeg_NotWaiting : PySem.W.subIn K (.ref cl_NoLeg) (.ref cl_NotWaiting) = some false)
    (su_NoRow_NotWaiting : PySem.W.subIn K (.ref cl_NoRow) (.ref cl_NotWaiting) = some false)
    (ic_Twice : PySem.W.isClsIn K cl_Twice = true)
    (ty_Twice : PySem.W.typeIn K (.ref cl_Twice) = some (.type "type"))
    (su_NoName_Twice : PySem.W.subIn K (.ref cl_NoName) (.ref cl_Twice) = some false)
    (su_NoLeg_Twice : PySem.W.subIn K (.ref cl_NoLeg) (.ref cl_Twice) = some false)
    (su_NoRow_Twice : PySem.W.subIn K (.ref cl_NoRow) (.ref cl_Twice) = some false)
    (ic_TooLittle : PySem.W.isClsIn K cl_TooLittle = true)
    (ty_TooLittle : PySem.W.typeIn K (.ref cl_TooLittle) = some (.type "type"))
    (su_NoName_TooLittle : PySem.W.subIn K (.ref cl_NoName) (.ref cl_TooLittle) = some false)
    (su_NoLeg_TooLittle : PySem.W.subIn K (.ref cl_NoLeg) (.ref cl_TooLittle) = some false)
    (su_NoRow_TooLittle : PySem.W.subIn K (.ref cl_NoRow) (.ref cl_TooLittle) = some false)
    (ic_NotNow : PySem.W.isClsIn K cl_NotNow = true)
    (ty_NotNow : PySem.W.typeIn K (.ref cl_NotNow) = some (.type "type"))
    (su_NoName_NotNow : PySem.W.subIn K (.ref cl_NoName) (.ref cl_NotNow) = some false)
    (su_NoLeg_NotNow : PySem.W.subIn K (.ref cl_NoLeg) (.ref cl_NotNow) = some false)
    (su_NoRow_NotNow : PySem.W.subIn K (.ref cl_NoRow) (.ref cl_NotNow) = some false)
    (ic_NotForetold : PySem.W.isClsIn K cl_NotForetold = true)
    (ty_NotForetold : PySem.W.typeIn K (.ref cl_NotForetold) = some (.type "type"))
    (su_NoName_NotForetold : PySem.W.subIn K (.ref cl_NoName) (.ref cl_NotForetold) = some false)
    (su_NoLeg_NotForetold : PySem.W.subIn K (.ref cl_NoLeg) (.ref cl_NotForetold) = some false)
    (su_NoRow_NotForetold : PySem.W.subIn K (.ref cl_NoRow) (.ref cl_NotForetold) = some false)
    (ic_NoRow : PySem.W.isClsIn K cl_NoRow = true)
    (su_NoName_NoRow : PySem.W.subIn K (.ref cl_NoName) (.ref cl_NoRow) = some false)
    (su_NoLeg_NoRow : PySem.W.subIn K (.ref cl_NoLeg) (.ref cl_NoRow) = some false)
    (ic_NoBack : PySem.W.isClsIn K cl_NoBack = true)
    (ty_NoBack : PySem.W.typeIn K (.ref cl_NoBack) = some (.type "type"))
    (su_NoName_NoBack : PySem.W.subIn K (.ref cl_NoName) (.ref cl_NoBack) = some false)
    (su_NoLeg_NoBack : PySem.W.subIn K (.ref cl_NoLeg) (.ref cl_NoBack) = some false)
    (su_NoRow_NoBack : PySem.W.subIn K (.ref cl_NoRow) (.ref cl_NoBack) = some false)
    (pg_Lay : PySem.W.plainGet K cl_Lay Str.empty = true)
    (hd_Lay : PySem.W.hasDictIn K cl_Lay = true)
    (po_Lay : PySem.W.plainOver K cl_Lay = true)
    (sa_Lay : PySem.W.findIn K (.ref cl_Lay) "__setattr__" = some (some (.builtin "object.__setattr__")))
    (ca_Lay : PySem.W.findIn K (.ref cl_Lay) "__class__" = some (some (.builtin "object.__class__")))
    (mo_Lay : PySem.W.mroIn K cl_Lay (.type "object") = some true)
    (mk_Lay : PySem.W.makesIn K cl_Lay = true)
    (kp_Lay : PySem.W.keepIn K (.ref cl_Lay) = true)
    (su_Lay_Lay : PySem.W.subIn K (.ref cl_Lay) (.ref cl_Lay) = some true)
    (na_shelf_Lay : PySem.W.findIn K (.ref cl_Lay) "shelf" = some none)
    (na_amount_Lay : PySem.W.findIn K (.ref cl_Lay) "amount" = some none)
    (na_line_Lay : PySem.W.findIn K (.ref cl_Lay) "line" = some none)
    (na_deal_Lay : PySem.W.findIn K (.ref cl_Lay) "deal" = some none)
    (na_name_Lay : PySem.W.findIn K (.ref cl_Lay) "name" = some none)
    (na_place_Lay : PySem.W.findIn K (.ref cl_Lay) "place" = some none)
    (pg_Take : PySem.W.plainGet K cl_Take Str.empty = true)
    (hd_Take : PySem.W.hasDictIn K cl_Take = true)
    (po_Take : PySem.W.plainOver K cl_Take = true)
    (sa_Take : PySem.W.findIn K (.ref cl_Take) "__setattr__" = some (some (.builtin "object.__setattr__")))
    (ca_Take : PySem.W.findIn K (.ref cl_Take) "__class__" = some (some (.builtin "object.__class__")))
    (mo_Take : PySem.W.mroIn K cl_Take (.type "object") = some true)
    (mk_Take : PySem.W.makesIn K cl_Take = true)
    (kp_Take : PySem.W.keepIn K (.ref cl_Take) = true)
    (su_Take_Take : PySem.W.subIn K (.ref cl_Take) (.ref cl_Take) = some true)
    (na_shelf_Take : PySem.W.findIn K (.ref cl_Take) "shelf" = some none)
    (na_amount_Take : PySem.W.findIn K (.ref cl_Take) "amount" = some none)
    (na_line_Take : PySem.W.findIn K (.ref cl_Take) "line" = some none)
    (na_deal_Take : PySem.W.findIn K (.ref cl_Take) "deal" = some none)
    (na_name_Take : PySem.W.findIn K (.ref cl_Take) "name" = some none)
    (na_place_Take : PySem.W.findIn K (.ref cl_Take) "place" = some none)
    (pg_Line : PySem.W.plainGet K cl_Line Str.empty = true)
    (hd_Line : PySem.W.hasDictIn K cl_Line = true)
    (po_Line : PySem.W.plainOver K cl_Line = true)
    (sa_Line : PySem.W.findIn K (.ref cl_Line) "__setattr__" = some (some (.builtin "object.__setattr__")))
    (ca_Line : PySem.W.findIn K (.ref cl_Line) "__class__" = some (some (.builtin "object.__class__")))
    (mo_Line : PySem.W.mroIn K cl_Line (.type "object") = some true)
    (mk_Line : PySem.W.makesIn K cl_Line = true)
    (kp_Line : PySem.W.keepIn K (.ref cl_Line) = true)
    (su_Line_Line : PySem.W.subIn K (.ref cl_Line) (.ref cl_Line) = some true)
    (na_shelf_Line : PySem.W.findIn K (.ref cl_Line) "shelf" = some none)
    (na_amount_Line : PySem.W.findIn K (.ref cl_Line) "amount" = some none)
    (na_line_Line : PySem.W.findIn K (.ref cl_Line) "line" = some none)
    (na_deal_Line : PySem.W.findIn K (.ref cl_Line) "deal" = some none)
    (na_name_Line : PySem.W.findIn K (.ref cl_Line) "name" = some none)
    (na_place_Line : PySem.W.findIn K (.ref cl_Line) "place" = some none)
    (pg_Offer : PySem.W.plainGet K cl_Offer Str.empty = true)
    (hd_Offer : PySem.W.hasDictIn K cl_Offer = true)
    (po_Offer : PySem.W.plainOver K cl_Offer = true)
    (sa_Offer : PySem.W.findIn K (.ref cl_Offer) "__setattr__" = some (some (.builtin "object.__setattr__")))
    (ca_Offer : PySem.W.findIn K (.ref cl_Offer) "__class__" = some (some (.builtin "object.__class__")))
    (mo_Offer : PySem.W.mroIn K cl_Offer (.type "object") = some true)
    (mk_Offer : PySem.W.makesIn K cl_Offer = true)
    (kp_Offer : PySem.W.keepIn K (.ref cl_Offer) = true)
    (su_Offer_Offer : PySem.W.subIn K (.ref cl_Offer) (.ref cl_Offer) = some true)
    (na_shelf_Offer : PySem.W.findIn K (.ref cl_Offer) "shelf" = some none)
    (na_amount_Offer : PySem.W.findIn K (.ref cl_Offer) "amount" = some none)
    (na_line_Offer : PySem.W.findIn K (.ref cl_Offer) "line" = some none)
    (na_deal_Offer : PySem.W.findIn K (.ref cl_Offer) "deal" = some none)
    (na_name_Offer : PySem.W.findIn K (.ref cl_Offer) "name" = some none)
    (na_place_Offer : PySem.W.findIn K (.ref cl_Offer) "place" = some none)
    (pg_Off : PySem.W.plainGet K cl_Off Str.empty = true)
    (hd_Off : PySem.W.hasDictIn K cl_Off = true)
    (po_Off : PySem.W.plainOver K cl_Off = true)
    (sa_Off : PySem.W.findIn K (.ref cl_Off) "__setattr__" = some (some (.builtin "object.__setattr__")))
    (ca_Off : PySem.W.findIn K (.ref cl_Off) "__class__" = some (some (.builtin "object.__class__")))
    (mo_Off : PySem.W.mroIn K cl_Off (.type "object") = some true)
    (mk_Off : PySem.W.makesIn K cl_Off = true)
    (kp_Off : PySem.W.keepIn K (.ref cl_Off) = true)
    (su_Off_Off : PySem.W.subIn K (.ref cl_Off) (.ref cl_Off) = some true)
    (na_shelf_Off : PySem.W.findIn K (.ref cl_Off) "shelf" = some none)
    (na_amount_Off : PySem.W.findIn K (.ref cl_Off) "amount" = some none)
    (na_line_Off : PySem.W.findIn K (.ref cl_Off) "line" = some none)
    (na_deal_Off : PySem.W.findIn K (.ref cl_Off) "deal" = some none)
    (na_name_Off : PySem.W.findIn K (.ref cl_Off) "name" = some none)
    (na_place_Off : PySem.W.findIn K (.ref cl_Off) "place" = some none)
    (pg_Put : PySem.W.plainGet K cl_Put Str.empty = true)
    (hd_Put : PySem.W.hasDictIn K cl_Put = true)
    (po_Put : PySem.W.plainOver K cl_Put = true)
    (sa_Put : PySem.W.findIn K (.ref cl_Put) "__setattr__" = some (some (.builtin "object.__setattr__")))
    (ca_Put : PySem.W.findIn K (.ref cl_Put) "__class__" = some (some (.builtin "object.__class__")))
    (mo_Put : PySem.W.mroIn K cl_Put (.type "object") = some true)
    (mk_Put : PySem.W.makesIn K cl_Put = true)
    (kp_Put : PySem.W.keepIn K (.ref cl_Put) = true)
    (su_Put_Put : PySem.W.subIn K (.ref cl_Put) (.ref cl_Put) = some true)
    (na_shelf_Put : PySem.W.findIn K (.ref cl_Put) "shelf" = some none)
    (na_amount_Put : PySem.W.findIn K (.ref cl_Put) "amount" = some none)
    (na_line_Put : PySem.W.findIn K (.ref cl_Put) "line" = some none)
    (na_deal_Put : PySem.W.findIn K (.ref cl_Put) "deal" = some none)
    (na_name_Put : PySem.W.findIn K (.ref cl_Put) "name" = some none)
    (na_place_Put : PySem.W.findIn K (.ref cl_Put) "place" = some none)
    (pg_Bell : PySem.W.plainGet K cl_Bell Str.empty = true)
    (hd_Bell : PySem.W.hasDictIn K cl_Bell = true)
    (po_Bell : PySem.W.plainOver K cl_Bell = true)
    (sa_Bell : PySem.W.findIn K (.ref cl_Bell) "__setattr__" = some (some (.builtin "object.__setattr__")))
    (ca_Bell : PySem.W.findIn K (.ref cl_Bell) "__class__" = some (some (.builtin "object.__class__")))
    (mo_Bell : PySem.W.mroIn K cl_Bell (.type "object") = some true)
    (mk_Bell : PySem.W.makesIn K cl_Bell = true)
    (kp_Bell : PySem.W.keepIn K (.ref cl_Bell) = true)
    (su_Bell_Bell : PySem.W.subIn K (.ref cl_Bell) (.ref cl_Bell) = some true)
    (in_Bell : PySem.W.findIn K (.ref cl_Bell) "__init__" = some (some (.builtin "object.__init__")))
    (na_shelf_Bell : PySem.W.findIn K (.ref cl_Bell) "shelf" = some none)
    (na_amount_Bell : PySem.W.findIn K (.ref cl_Bell) "amount" = some none)
    (na_line_Bell : PySem.W.findIn K (.ref cl_Bell) "line" = some none)
    (na_deal_Bell : PySem.W.findIn K (.ref cl_Bell) "deal" = some none)
    (na_name_Bell : PySem.W.findIn K (.ref cl_Bell) "name" = some none)
    (na_place_Bell : PySem.W.findIn K (.ref cl_Bell) "place" = some none) :
    ∃ fd : FuncData, (∀ (s : Shared) (v : Value), BindsTo s fd ⟨[v], []⟩ [("script", v)]) ∧ ∀ base : Heap, K.In base → base.Ns mainGlobals mg → FnOk PP w K mg base (L2.CX PP w) (2 * 9) fa fd ["script"] (spOf (GG ⟨cl_HallError, cl_NoName, cl_NoAmount, cl_NoLeg, cl_NotWaiting, cl_Twice, cl_TooLittle, cl_NotNow, cl_NotForetold, cl_NoRow, cl_NoBack, cl_Lay, cl_Take, cl_Line, cl_Offer, cl_Off, cl_Put, cl_Bell⟩) K 9 26) := by
  have e := hfa.symm.trans (PySem.W.mg_of X G a26)
  cases e
  have T : Txt ⟨cl_HallError, cl_NoName, cl_NoAmount, cl_NoLeg, cl_NotWaiting, cl_Twice, cl_TooLittle, cl_NotNow, cl_NotForetold, cl_NoRow, cl_NoBack, cl_Lay, cl_Take, cl_Line, cl_Offer, cl_Off, cl_Put, cl_Bell⟩ K mg := ⟨PySem.W.mg_none_of X G z_ValueError, PySem.W.mg_none_of X G z_bool, PySem.W.mg_none_of X G z_int, PySem.W.mg_none_of X G z_isinstance, PySem.W.mg_none_of X G z_len, PySem.W.mg_none_of X G z_list, PySem.W.mg_none_of X G z_min, PySem.W.mg_none_of X G z_range, PySem.W.mg_none_of X G z_str, PySem.W.mg_none_of X G z_tuple, ⟨_, PySem.W.mg_of X G v_LETTERS, r_LETTERS⟩, ⟨_, PySem.W.mg_of X G v_FIGURES, r_FIGURES⟩, PySem.W.mg_of X G mc_HallError, PySem.W.mg_of X G mc_NoName, PySem.W.mg_of X G mc_NoAmount, PySem.W.mg_of X G mc_NoLeg, PySem.W.mg_of X G mc_NotWaiting, PySem.W.mg_of X G mc_Twice, PySem.W.mg_of X G mc_TooLittle, PySem.W.mg_of X G mc_NotNow, PySem.W.mg_of X G mc_NotForetold, PySem.W.mg_of X G mc_NoRow, PySem.W.mg_of X G mc_NoBack, PySem.W.mg_of X G mc_Lay, PySem.W.mg_of X G mc_Take, PySem.W.mg_of X G mc_Line, PySem.W.mg_of X G mc_Offer, PySem.W.mg_of X G mc_Off, PySem.W.mg_of X G mc_Put, PySem.W.mg_of X G mc_Bell, ⟨⟨_, _, _, _, _, rfl, PySem.W.mg_of X G mc_NoName, PySem.F.excBase_ValueError, xe_NoName, kp_NoName, sb_NoName, ty_NoName⟩⟩, ⟨⟨_, _, _, _, _, rfl, PySem.W.mg_of X G mc_NoLeg, PySem.F.excBase_ValueError, xe_NoLeg, kp_NoLeg, sb_NoLeg, ty_NoLeg⟩⟩, ⟨⟨_, _, _, _, _, rfl, PySem.W.mg_of X G mc_NoRow, PySem.F.excBase_ValueError, xe_NoRow, kp_NoRow, sb_NoRow, ty_NoRow⟩⟩, (fun k C0 h => by
    rcases kex_inv h with ⟨rfl, rfl⟩ | ⟨rfl, rfl⟩ | ⟨rfl, rfl⟩
    · exact ⟨ga_NoName, gg_NoName, sb_NoName, hd_NoName, ca_NoName, x_hn, x_ht, mo_NoName⟩
    · exact ⟨ga_NoLeg, gg_NoLeg, sb_NoLeg, hd_NoLeg, ca_NoLeg, x_hn, x_ht, mo_NoLeg⟩
    · exact ⟨ga_NoRow, gg_NoRow, sb_NoRow, hd_NoRow, ca_NoRow, x_hn, x_ht, mo_NoRow⟩), (fun k C0 h => by
    rcases kex_inv h with ⟨rfl, rfl⟩ | ⟨rfl, rfl⟩ | ⟨rfl, rfl⟩
    · exact kit_own ic_NoBack ty_NoBack su_NoName_NoBack su_NoName_NoName
    · exact kit_own ic_NoBack ty_NoBack su_NoLeg_NoBack su_NoLeg_NoLeg
    · exact kit_own ic_NoBack ty_NoBack su_NoRow_NoBack su_NoRow_NoRow), (fun k C0 h => by
    rcases kex_inv h with ⟨rfl, rfl⟩ | ⟨rfl, rfl⟩ | ⟨rfl, rfl⟩
    · exact kit_own ic_NotForetold ty_NotForetold su_NoName_NotForetold su_NoName_NoName
    · exact kit_own ic_NotForetold ty_NotForetold su_NoLeg_NotForetold su_NoLeg_NoLeg
    · exact kit_own ic_NotForetold ty_NotForetold su_NoRow_NotForetold su_NoRow_NoRow), (fun k C0 h => by
    rcases kex_inv h with ⟨rfl, rfl⟩ | ⟨rfl, rfl⟩ | ⟨rfl, rfl⟩
    · exact kit_own ic_NotNow ty_NotNow su_NoName_NotNow su_NoName_NoName
    · exact kit_own ic_NotNow ty_NotNow su_NoLeg_NotNow su_NoLeg_NoLeg
    · exact kit_own ic_NotNow ty_NotNow su_NoRow_NotNow su_NoRow_NoRow), (fun k C0 h => by
    rcases kex_inv h with ⟨rfl, rfl⟩ | ⟨rfl, rfl⟩ | ⟨rfl, rfl⟩
    · exact kit_own ic_TooLittle ty_TooLittle su_NoName_TooLittle su_NoName_NoName
    · exact kit_own ic_TooLittle ty_TooLittle su_NoLeg_TooLittle su_NoLeg_NoLeg
    · exact kit_own ic_TooLittle ty_TooLittle su_NoRow_TooLittle su_NoRow_NoRow), (fun k C0 h => by
    rcases kex_inv h with ⟨rfl, rfl⟩ | ⟨rfl, rfl⟩ | ⟨rfl, rfl⟩
    · exact kit_own ic_Twice ty_Twice su_NoName_Twice su_NoName_NoName
    · exact kit_own ic_Twice ty_Twice su_NoLeg_Twice su_NoLeg_NoLeg
    · exact kit_own ic_Twice ty_Twice su_NoRow_Twice su_NoRow_NoRow), (fun k C0 h => by
    rcases kex_inv h with ⟨rfl, rfl⟩ | ⟨rfl, rfl⟩ | ⟨rfl, rfl⟩
    · exact kit_own ic_NotWaiting ty_NotWaiting su_NoName_NotWaiting su_NoName_NoName
    · exact kit_own ic_NotWaiting ty_NotWaiting su_NoLeg_NotWaiting su_NoLeg_NoLeg
    · exact kit_own ic_NotWaiting ty_NotWaiting su_NoRow_NotWaiting su_NoRow_NoRow), (fun k C0 h => by
    rcases kex_inv h with ⟨rfl, rfl⟩ | ⟨rfl, rfl⟩ | ⟨rfl, rfl⟩
    · exact kit_own ic_NoLeg ty_NoLeg su_NoName_NoLeg su_NoName_NoName
    · exact kit_own ic_NoLeg ty_NoLeg su_NoLeg_NoLeg su_NoLeg_NoLeg
    · exact kit_own ic_NoLeg ty_NoLeg su_NoRow_NoLeg su_NoRow_NoRow), (fun k C0 h => by
    rcases kex_inv h with ⟨rfl, rfl⟩ | ⟨rfl, rfl⟩ | ⟨rfl, rfl⟩
    · exact kit_own ic_NoAmount ty_NoAmount su_NoName_NoAmount su_NoName_NoName
    · exact kit_own ic_NoAmount ty_NoAmount su_NoLeg_NoAmount su_NoLeg_NoLeg
    · exact kit_own ic_NoAmount ty_NoAmount su_NoRow_NoAmount su_NoRow_NoRow), (fun k C0 h => by
    rcases kex_inv h with ⟨rfl, rfl⟩ | ⟨rfl, rfl⟩ | ⟨rfl, rfl⟩
    · exact kit_own ic_NoName ty_NoName su_NoName_NoName su_NoName_NoName
    · exact kit_own ic_NoName ty_NoName su_NoLeg_NoName su_NoLeg_NoLeg
    · exact kit_own ic_NoName ty_NoName su_NoRow_NoName su_NoRow_NoRow), (fun k C0 h => by
    rcases kex_inv h with ⟨rfl, rfl⟩ | ⟨rfl, rfl⟩ | ⟨rfl, rfl⟩
    · exact kit_own ic_NoRow ty_NoRow su_NoName_NoRow su_NoName_NoName
    · exact kit_own ic_NoRow ty_NoRow su_NoLeg_NoRow su_NoLeg_NoLeg
    · exact kit_own ic_NoRow ty_NoRow su_NoRow_NoRow su_NoRow_NoRow), (fun k C0 h => by
    rcases kex_inv h with ⟨rfl, rfl⟩ | ⟨rfl, rfl⟩ | ⟨rfl, rfl⟩
    · exact kit_val sv_NoName
    · exact kit_val sv_NoLeg
    · exact kit_val sv_NoRow), (fun k C0 h => by
    rcases kex_inv h with ⟨rfl, rfl⟩ | ⟨rfl, rfl⟩ | ⟨rfl, rfl⟩
    · exact PySem.W.exm_ref sb_HallError hd_HallError ty_HallError su_NoName_HallError
    · exact PySem.W.exm_ref sb_HallError hd_HallError ty_HallError su_NoLeg_HallError
    · exact PySem.W.exm_ref sb_HallError hd_HallError ty_HallError su_NoRow_HallError), (fun c0 C0 h => by
    rcases kap_inv h with ⟨rfl, rfl⟩ | ⟨rfl, rfl⟩ | ⟨rfl, rfl⟩ | ⟨rfl, rfl⟩ | ⟨rfl, rfl⟩ | ⟨rfl, rfl⟩ | ⟨rfl, rfl⟩
    · exact ⟨pg_Lay, hd_Lay, po_Lay, sa_Lay⟩
    · exact ⟨pg_Take, hd_Take, po_Take, sa_Take⟩
    · exact ⟨pg_Line, hd_Line, po_Line, sa_Line⟩
    · exact ⟨pg_Offer, hd_Offer, po_Offer, sa_Offer⟩
    · exact ⟨pg_Off, hd_Off, po_Off, sa_Off⟩
    · exact ⟨pg_Put, hd_Put, po_Put, sa_Put⟩
    · exact ⟨pg_Bell, hd_Bell, po_Bell, sa_Bell⟩), (fun c0 C0 h => by
    rcases kap_inv h with ⟨rfl, rfl⟩ | ⟨rfl, rfl⟩ | ⟨rfl, rfl⟩ | ⟨rfl, rfl⟩ | ⟨rfl, rfl⟩ | ⟨rfl, rfl⟩ | ⟨rfl, rfl⟩
    · exact na_shelf_Lay
    · exact na_shelf_Take
    · exact na_shelf_Line
    · exact na_shelf_Offer
    · exact na_shelf_Off
    · exact na_shelf_Put
    · exact na_shelf_Bell), (fun c0 C0 h => by
    rcases kap_inv h with ⟨rfl, rfl⟩ | ⟨rfl, rfl⟩ | ⟨rfl, rfl⟩ | ⟨rfl, rfl⟩ | ⟨rfl, rfl⟩ | ⟨rfl, rfl⟩ | ⟨rfl, rfl⟩
    · exact na_amount_Lay
    · exact na_amount_Take
    · exact na_amount_Line
    · exact na_amount_Offer
    · exact na_amount_Off
    · exact na_amount_Put
    · exact na_amount_Bell), (fun c0 C0 h => by
    rcases kap_inv h with ⟨rfl, rfl⟩ | ⟨rfl, rfl⟩ | ⟨rfl, rfl⟩ | ⟨rfl, rfl⟩ | ⟨rfl, rfl⟩ | ⟨rfl, rfl⟩ | ⟨rfl, rfl⟩
    · exact na_line_Lay
    · exact na_line_Take
    · exact na_line_Line
    · exact na_line_Offer
    · exact na_line_Off
    · exact na_line_Put
    · exact na_line_Bell), (fun c0 C0 h => by
    rcases kap_inv h with ⟨rfl, rfl⟩ | ⟨rfl, rfl⟩ | ⟨rfl, rfl⟩ | ⟨rfl, rfl⟩ | ⟨rfl, rfl⟩ | ⟨rfl, rfl⟩ | ⟨rfl, rfl⟩
    · exact na_deal_Lay
    · exact na_deal_Take
    · exact na_deal_Line
    · exact na_deal_Offer
    · exact na_deal_Off
    · exact na_deal_Put
    · exact na_deal_Bell), (fun c0 C0 h => by
    rcases kap_inv h with ⟨rfl, rfl⟩ | ⟨rfl, rfl⟩ | ⟨rfl, rfl⟩ | ⟨rfl, rfl⟩ | ⟨rfl, rfl⟩ | ⟨rfl, rfl⟩ | ⟨rfl, rfl⟩
    · exact na_name_Lay
    · exact na_name_Take
    · exact na_name_Line
    · exact na_name_Offer
    · exact na_name_Off
    · exact na_name_Put
    · exact na_name_Bell), (fun c0 C0 h => by
    rcases kap_inv h with ⟨rfl, rfl⟩ | ⟨rfl, rfl⟩ | ⟨rfl, rfl⟩ | ⟨rfl, rfl⟩ | ⟨rfl, rfl⟩ | ⟨rfl, rfl⟩ | ⟨rfl, rfl⟩
    · exact na_place_Lay
    · exact na_place_Take
    · exact na_place_Line
    · exact na_place_Offer
    · exact na_place_Off
    · exact na_place_Put
    · exact na_place_Bell)⟩
  have F0 := fun_mk (x := "is_name") (qual := "is_name") (st := (top 21)) l0 c0 k0
  have b0 := F0.binds (ps := ["thing"]) fun _ _ _ _ _ _ us hl => match us, hl with | [_], _ => rfl
  have F1 := fun_mk (x := "is_amount") (qual := "is_amount") (st := (top 22)) l1 c1 k1
  have b1 := F1.binds (ps := ["thing"]) fun _ _ _ _ _ _ us hl => match us, hl with | [_], _ => rfl
  have F2 := fun_mk (x := "is_leg") (qual := "is_leg") (st := (top 24)) l2 c2 k2
  have b2 := F2.binds (ps := ["thing"]) fun _ _ _ _ _ _ us hl => match us, hl with | [_], _ => rfl
  have F3 := fun_mk (x := "deal_of") (qual := "deal_of") (st := (top 25)) l3 c3 k3
  have b3 := F3.binds (ps := ["name", "legs"]) fun _ _ _ _ _ _ us hl => match us, hl with | [_, _], _ => rfl
  have F4 := fun_mk (x := "name_in") (qual := "name_in") (st := (top 55)) l4 c4 k4
  have b4 := F4.binds (ps := ["word"]) fun _ _ _ _ _ _ us hl => match us, hl with | [_], _ => rfl
  have F5 := fun_mk (x := "number_in") (qual := "number_in") (st := (top 56)) l5 c5 k5
  have b5 := F5.binds (ps := ["word"]) fun _ _ _ _ _ _ us hl => match us, hl with | [_], _ => rfl
  have F6 := fun_mk (x := "amount_in") (qual := "amount_in") (st := (top 57)) l6 c6 k6
  have b6 := F6.binds (ps := ["word"]) fun _ _ _ _ _ _ us hl => match us, hl with | [_], _ => rfl
  have F7 := fun_mk (x := "leg_in") (qual := "leg_in") (st := (top 58)) l7 c7 k7
  have b7 := F7.binds (ps := ["text"]) fun _ _ _ _ _ _ us hl => match us, hl with | [_], _ => rfl
  have F8 := fun_mk (x := "offer_in") (qual := "offer_in") (st := (top 59)) l8 c8 k8
  have b8 := F8.binds (ps := ["text"]) fun _ _ _ _ _ _ us hl => match us, hl with | [_], _ => rfl
  have F9 := fun_mk (x := "shelf_deed") (qual := "shelf_deed") (st := (top 60)) l9 c9 k9
  have b9 := F9.binds (ps := ["words"]) fun _ _ _ _ _ _ us hl => match us, hl with | [_], _ => rfl
  have F10 := fun_mk (x := "read") (qual := "read") (st := (top 61)) l10 c10 k10
  have b10 := F10.binds (ps := ["row"]) fun _ _ _ _ _ _ us hl => match us, hl with | [_], _ => rfl
  have F11 := fun_mk (x := "_law_cell_at") (qual := "_law_cell_at") (st := (top 63)) l11 c11 k11
  have b11 := F11.binds (ps := ["script", "k"]) fun _ _ _ _ _ _ us hl => match us, hl with | [_, _], _ => rfl
  have F12 := fun_mk (x := "_law_name") (qual := "_law_name") (st := (top 64)) l12 c12 k12
  have b12 := F12.binds (ps := ["cell"]) fun _ _ _ _ _ _ us hl => match us, hl with | [_], _ => rfl
  have F13 := fun_mk (x := "_law_amount") (qual := "_law_amount") (st := (top 65)) l13 c13 k13
  have b13 := F13.binds (ps := ["cell"]) fun _ _ _ _ _ _ us hl => match us, hl with | [_], _ => rfl
  have F14 := fun_mk (x := "_law_leg") (qual := "_law_leg") (st := (top 66)) l14 c14 k14
  have b14 := F14.binds (ps := ["cell"]) fun _ _ _ _ _ _ us hl => match us, hl with | [_], _ => rfl
  have F15 := fun_mk (x := "_law_leg_text") (qual := "_law_leg_text") (st := (top 67)) l15 c15 k15
  have b15 := F15.binds (ps := ["leg"]) fun _ _ _ _ _ _ us hl => match us, hl with | [_], _ => rfl
  have F16 := fun_mk (x := "_law_made") (qual := "_law_made") (st := (top 68)) l16 c16 k16
  have b16 := F16.binds (ps := ["head", "one", "two"]) fun _ _ _ _ _ _ us hl => match us, hl with | [_, _, _], _ => rfl
  have F17 := fun_mk (x := "_law_word") (qual := "_law_word") (st := (top 69)) l17 c17 k17
  have b17 := F17.binds (ps := ["word"]) fun _ _ _ _ _ _ us hl => match us, hl with | [_], _ => rfl
  have F18 := fun_mk (x := "_law_figures") (qual := "_law_figures") (st := (top 70)) l18 c18 k18
  have b18 := F18.binds (ps := ["word", "bottom"]) fun _ _ _ _ _ _ us hl => match us, hl with | [_, _], _ => rfl
  have F19 := fun_mk (x := "_law_is_leg") (qual := "_law_is_leg") (st := (top 71)) l19 c19 k19
  have b19 := F19.binds (ps := ["text"]) fun _ _ _ _ _ _ us hl => match us, hl with | [_], _ => rfl
  have F20 := fun_mk (x := "_law_is_deal") (qual := "_law_is_deal") (st := (top 72)) l20 c20 k20
  have b20 := F20.binds (ps := ["words"]) fun _ _ _ _ _ _ us hl => match us, hl with | [_], _ => rfl
  have F21 := fun_mk (x := "_law_good") (qual := "_law_good") (st := (top 73)) l21 c21 k21
  have b21 := F21.binds (ps := ["row"]) fun _ _ _ _ _ _ us hl => match us, hl with | [_], _ => rfl
  have F22 := fun_mk (x := "_law_signs") (qual := "_law_signs") (st := (top 74)) l22 c22 k22
  have b22 := F22.binds (ps := ["text", "place", "sign", "way"]) fun _ _ _ _ _ _ us hl => match us, hl with | [_, _, _, _], _ => rfl
  have F23 := fun_mk (x := "_law_words") (qual := "_law_words") (st := (top 75)) l23 c23 k23
  have b23 := F23.binds (ps := ["text", "place", "rest", "way"]) fun _ _ _ _ _ _ us hl => match us, hl with | [_, _, _, _], _ => rfl
  have F24 := fun_mk (x := "_law_spoiled") (qual := "_law_spoiled") (st := (top 76)) l24 c24 k24
  have b24 := F24.binds (ps := ["text", "cell"]) fun _ _ _ _ _ _ us hl => match us, hl with | [_, _], _ => rfl
  have F25 := fun_mk (x := "_law_told") (qual := "_law_told") (st := (top 77)) l25 c25 k25
  have b25 := F25.binds (ps := ["row"]) fun _ _ _ _ _ _ us hl => match us, hl with | [_], _ => rfl
  have F26 := fun_mk (x := "law") (qual := "law") (st := (top 78)) l26 c26 k26
  have b26 := F26.binds (ps := ["script"]) fun _ _ _ _ _ _ us hl => match us, hl with | [_], _ => rfl
  have F27 := fun_mk (x := "__init__") (qual := "Lay.__init__") (st := (mth 46 0)) l27 c27 k27
  have b27 := F27.binds (ps := ["self", "shelf", "amount"]) fun _ _ _ _ _ _ us hl => match us, hl with | [_, _, _], _ => rfl
  have F28 := fun_mk (x := "row") (qual := "Lay.row") (st := (mth 46 2)) l28 c28 k28
  have b28 := F28.binds (ps := ["self"]) fun _ _ _ _ _ _ us hl => match us, hl with | [_], _ => rfl
  have F29 := fun_mk (x := "__init__") (qual := "Take.__init__") (st := (mth 47 0)) l29 c29 k29
  have b29 := F29.binds (ps := ["self", "shelf", "amount"]) fun _ _ _ _ _ _ us hl => match us, hl with | [_, _, _], _ => rfl
  have F30 := fun_mk (x := "row") (qual := "Take.row") (st := (mth 47 2)) l30 c30 k30
  have b30 := F30.binds (ps := ["self"]) fun _ _ _ _ _ _ us hl => match us, hl with | [_], _ => rfl
  have F31 := fun_mk (x := "__init__") (qual := "Line.__init__") (st := (mth 48 0)) l31 c31 k31
  have b31 := F31.binds (ps := ["self", "shelf", "line"]) fun _ _ _ _ _ _ us hl => match us, hl with | [_, _, _], _ => rfl
  have F32 := fun_mk (x := "row") (qual := "Line.row") (st := (mth 48 2)) l32 c32 k32
  have b32 := F32.binds (ps := ["self"]) fun _ _ _ _ _ _ us hl => match us, hl with | [_], _ => rfl
  have F33 := fun_mk (x := "__init__") (qual := "Offer.__init__") (st := (mth 49 0)) l33 c33 k33
  have b33 := F33.binds (ps := ["self", "deal"]) fun _ _ _ _ _ _ us hl => match us, hl with | [_, _], _ => rfl
  have F34 := fun_mk (x := "row") (qual := "Offer.row") (st := (mth 49 2)) l34 c34 k34
  have b34 := F34.binds (ps := ["self"]) fun _ _ _ _ _ _ us hl => match us, hl with | [_], _ => rfl
  have F35 := fun_mk (x := "__init__") (qual := "Off.__init__") (st := (mth 50 0)) l35 c35 k35
  have b35 := F35.binds (ps := ["self", "name"]) fun _ _ _ _ _ _ us hl => match us, hl with | [_, _], _ => rfl
  have F36 := fun_mk (x := "row") (qual := "Off.row") (st := (mth 50 2)) l36 c36 k36
  have b36 := F36.binds (ps := ["self"]) fun _ _ _ _ _ _ us hl => match us, hl with | [_], _ => rfl
  have F37 := fun_mk (x := "__init__") (qual := "Put.__init__") (st := (mth 51 0)) l37 c37 k37
  have b37 := F37.binds (ps := ["self", "shelf", "name", "place"]) fun _ _ _ _ _ _ us hl => match us, hl with | [_, _, _, _], _ => rfl
  have F38 := fun_mk (x := "row") (qual := "Put.row") (st := (mth 51 2)) l38 c38 k38
  have b38 := F38.binds (ps := ["self"]) fun _ _ _ _ _ _ us hl => match us, hl with | [_], _ => rfl
  have F39 := fun_mk (x := "row") (qual := "Bell.row") (st := (mth 52 1)) l39 c39 k39
  have b39 := F39.binds (ps := ["self"]) fun _ _ _ _ _ _ us hl => match us, hl with | [_], _ => rfl
  have A : Funs K mg ⟨f0, f1, f2, f3, f4, f5, f6, f7, f8, f9, f10, f11, f12, f13, f14, f15, f16, f17, f18, f19, f20, f21, f22, f23, f24, f25, fa, f27, f28, f29, f30, f31, f32, f33, f34, f35, f36, f37, f38, f39, _, _, _, _, _, _, _, _, _, _, _, _, _, _, _, _, _, _, _, _, _, _, _, _, _, _, _, _, _, _, _, _, _, _, _, _, _, _, _, _⟩ := ⟨F0, PySem.W.mg_of X G a0, b0, F1, PySem.W.mg_of X G a1, b1, F2, PySem.W.mg_of X G a2, b2, F3, PySem.W.mg_of X G a3, b3, F4, PySem.W.mg_of X G a4, b4, F5, PySem.W.mg_of X G a5, b5, F6, PySem.W.mg_of X G a6, b6, F7, PySem.W.mg_of X G a7, b7, F8, PySem.W.mg_of X G a8, b8, F9, PySem.W.mg_of X G a9, b9, F10, PySem.W.mg_of X G a10, b10, F11, PySem.W.mg_of X G a11, b11, F12, PySem.W.mg_of X G a12, b12, F13, PySem.W.mg_of X G a13, b13, F14, PySem.W.mg_of X G a14, b14, F15, PySem.W.mg_of X G a15, b15, F16, PySem.W.mg_of X G a16, b16, F17, PySem.W.mg_of X G a17, b17, F18, PySem.W.mg_of X G a18, b18, F19, PySem.W.mg_of X G a19, b19, F20, PySem.W.mg_of X G a20, b20, F21, PySem.W.mg_of X G a21, b21, F22, PySem.W.mg_of X G a22, b22, F23, PySem.W.mg_of X G a23, b23, F24, PySem.W.mg_of X G a24, b24, F25, PySem.W.mg_of X G a25, b25, F26, PySem.W.mg_of X G a26, b26, F27, b27, F28, b28, F29, b29, F30, b30, F31, b31, F32, b32, F33, b33, F34, b34, F35, b35, F36, b36, F37, b37, F38, b38, F39, b39⟩
  exact ⟨_, fun s v => .of_eq rfl, fun base _ _ => (all_n T A ⟨⟨mk_Lay, a27, w27, kp_Lay⟩, ⟨a28, w28, k28⟩, ⟨pg_Lay, hd_Lay, po_Lay, sa_Lay⟩, ⟨mk_Take, a29, w29, kp_Take⟩, ⟨a30, w30, k30⟩, ⟨pg_Take, hd_Take, po_Take, sa_Take⟩, ⟨mk_Line, a31, w31, kp_Line⟩, ⟨a32, w32, k32⟩, ⟨pg_Line, hd_Line, po_Line, sa_Line⟩, ⟨mk_Offer, a33, w33, kp_Offer⟩, ⟨a34, w34, k34⟩, ⟨pg_Offer, hd_Offer, po_Offer, sa_Offer⟩, ⟨mk_Off, a35, w35, kp_Off⟩, ⟨a36, w36, k36⟩, ⟨pg_Off, hd_Off, po_Off, sa_Off⟩, ⟨mk_Put, a37, w37, kp_Put⟩, ⟨a38, w38, k38⟩, ⟨pg_Put, hd_Put, po_Put, sa_Put⟩, ⟨mk_Bell, in_Bell, kp_Bell⟩, ⟨a39, w39, k39⟩, ⟨pg_Bell, hd_Bell, po_Bell, sa_Bell⟩⟩ 9).f_law.ok⟩
theorem walk {B : CAd} {l : PySem.W.OpenLaw} (hl : l.prog = PP) {q : Program} {loose : List Str} {XP : (Str → Option Value) → Heap → Prop} {YP : World → Heap → Prop} {d : DefRec} {K : Params → PySem.W.Frag} (hn : l.most = some 63) (hdf : d.params.defaults = [])
    (hY : ∀ (w : World) (h : Heap), YP w h → (K w.params).In h)
    (F : ∀ (w : World) (mg : Str → Option Value) (fa : Addr) (h : Heap), (K w.params).In h → h.Ns mainGlobals mg → mg d.name = some (.ref fa) →
      ∃ fd : FuncData, (∀ (s : Shared) (u : Value), BindsTo s fd ⟨[u], []⟩ [("script", u)]) ∧ ∀ base : Heap, (K w.params).In base → base.Ns mainGlobals mg → FnOk PP w (K w.params) mg base (L2.CX PP w) (2 * 9) fa fd ["script"] (spOf (GG B) (K w.params) 9 26)) :
    PySem.W.WalkO q loose XP YP l.row.toRowW d [] (fun f vs => PySem.call f vs) :=
  L2.walk_of (n := 63) (k := 2 * 9) (x := "script") (CX := fun w => L2.CX PP w) (sp := fun w => spOf (GG B) (K w.params) 9 26) hn (by decide) hdf ⟨rfl, by decide, by decide⟩ hY (hl ▸ F) (fun w H a ns h1 h2 h3 => law_sp law_clean H a ns h1 h2 h3) fun _ _ _ _ _ z => cx_none z
end Lk62
open PySem PySem.W PyProof.Rows
set_option maxRecDepth 100000 in
set_option maxHeartbeats 0 in
theorem PySem.Challenge.cw_dealknot_k62_rows_refused_holds : PySem.Challenge.rw_dealknot_k62_rows_refused.Holds := by
  w_on; o_law; k_head; (case hw => w_witness2)
  k_fill
  refine' Lk62.walk (B := ⟨?bHallError, ?bNoName, ?bNoAmount, ?bNoLeg, ?bNotWaiting, ?bTwice, ?bTooLittle, ?bNotNow, ?bNotForetold, ?bNoRow, ?bNoBack, ?bLay, ?bTake, ?bLine, ?bOffer, ?bOff, ?bPut, ?bBell⟩) (l := PySem.Challenge.rw_dealknot_k62_rows_refused) rfl rfl rfl (fun w h Y => PySem.W.kIn_of Y) ?F
  case F =>
    intro w mg fa h KX G hmg
    refine' Lk62.all_mk KX G hmg ?a0 ?l0 ?c0 ?k0 ?a1 ?l1 ?c1 ?k1 ?a2 ?l2 ?c2 ?k2 ?a3 ?l3 ?c3 ?k3 ?a4 ?l4 ?c4 ?k4 ?a5 ?l5 ?c5 ?k5 ?a6 ?l6 ?c6 ?k6 ?a7 ?l7 ?c7 ?k7 ?a8 ?l8 ?c8 ?k8 ?a9 ?l9 ?c9 ?k9 ?a10 ?l10 ?c10 ?k10 ?a11 ?l11 ?c11 ?k11 ?a12 ?l12 ?c12 ?k12 ?a13 ?l13 ?c13 ?k13 ?a14 ?l14 ?c14 ?k14 ?a15 ?l15 ?c15 ?k15 ?a16 ?l16 ?c16 ?k16 ?a17 ?l17 ?c17 ?k17 ?a18 ?l18 ?c18 ?k18 ?a19 ?l19 ?c19 ?k19 ?a20 ?l20 ?c20 ?k20 ?a21 ?l21 ?c21 ?k21 ?a22 ?l22 ?c22 ?k22 ?a23 ?l23 ?c23 ?k23 ?a24 ?l24 ?c24 ?k24 ?a25 ?l25 ?c25 ?k25 ?a26 ?l26 ?c26 ?k26 ?a27 ?w27 ?l27 ?c27 ?k27 ?a28 ?w28 ?l28 ?c28 ?k28 ?a29 ?w29 ?l29 ?c29 ?k29 ?a30 ?w30 ?l30 ?c30 ?k30 ?a31 ?w31 ?l31 ?c31 ?k31 ?a32 ?w32 ?l32 ?c32 ?k32 ?a33 ?w33 ?l33 ?c33 ?k33 ?a34 ?w34 ?l34 ?c34 ?k34 ?a35 ?w35 ?l35 ?c35 ?k35 ?a36 ?w36 ?l36 ?c36 ?k36 ?a37 ?w37 ?l37 ?c37 ?k37 ?a38 ?w38 ?l38 ?c38 ?k38 ?a39 ?w39 ?l39 ?c39 ?k39 ?z_ValueError ?z_bool ?z_int ?z_isinstance ?z_len ?z_list ?z_min ?z_range ?z_str ?z_tuple ?v_LETTERS ?r_LETTERS ?v_FIGURES ?r_FIGURES ?mc_HallError ?mc_NoName ?mc_NoAmount ?mc_NoLeg ?mc_NotWaiting ?mc_Twice ?mc_TooLittle ?mc_NotNow ?mc_NotForetold ?mc_NoRow ?mc_NoBack ?mc_Lay ?mc_Take ?mc_Line ?mc_Offer ?mc_Off ?mc_Put ?mc_Bell ?x_hn ?x_ht ?xe_NoName ?kp_NoName ?sb_NoName ?ty_NoName ?ga_NoName ?gg_NoName ?hd_NoName ?ca_NoName ?mo_NoName ?su_NoName_NoName ?sv_NoName ?xe_NoLeg ?kp_NoLeg ?sb_NoLeg ?ty_NoLeg ?ga_NoLeg ?gg_NoLeg ?hd_NoLeg ?ca_NoLeg ?mo_NoLeg ?su_NoLeg_NoLeg ?sv_NoLeg ?xe_NoRow ?kp_NoRow ?sb_NoRow ?ty_NoRow ?ga_NoRow ?gg_NoRow ?hd_NoRow ?ca_NoRow ?mo_NoRow ?su_NoRow_NoRow ?sv_NoRow ?ic_HallError ?ty_HallError ?su_NoName_HallError ?su_NoLeg_HallError ?su_NoRow_HallError ?sb_HallError ?hd_HallError ?ic_NoName ?su_NoLeg_NoName ?su_NoRow_NoName ?ic_NoAmount ?ty_NoAmount ?su_NoName_NoAmount ?su_NoLeg_NoAmount ?su_NoRow_NoAmount ?ic_NoLeg ?su_NoName_NoLeg ?su_NoRow_NoLeg ?ic_NotWaiting ?ty_NotWaiting ?su_NoName_NotWaiting ?su_NoLeg_NotWaiting ?su_NoRow_NotWaiting ?ic_Twice ?ty_Twice ?su_NoName_Twice ?su_NoLeg_Twice ?su_NoRow_Twice ?ic_TooLittle ?ty_TooLittle ?su_NoName_TooLittle ?su_NoLeg_TooLittle ?su_NoRow_TooLittle ?ic_NotNow ?ty_NotNow ?su_NoName_NotNow ?su_NoLeg_NotNow ?su_NoRow_NotNow ?ic_NotForetold ?ty_NotForetold ?su_NoName_NotForetold ?su_NoLeg_NotForetold ?su_NoRow_NotForetold ?ic_NoRow ?su_NoName_NoRow ?su_NoLeg_NoRow ?ic_NoBack ?ty_NoBack ?su_NoName_NoBack ?su_NoLeg_NoBack ?su_NoRow_NoBack ?pg_Lay ?hd_Lay ?po_Lay ?sa_Lay ?ca_Lay ?mo_Lay ?mk_Lay ?kp_Lay ?su_Lay_Lay ?na_shelf_Lay ?na_amount_Lay ?na_line_Lay ?na_deal_Lay ?na_name_Lay ?na_place_Lay ?pg_Take ?hd_Take ?po_Take ?sa_Take ?ca_Take ?mo_Take ?mk_Take ?kp_Take ?su_Take_Take ?na_shelf_Take ?na_amount_Take ?na_line_Take ?na_deal_Take ?na_name_Take ?na_place_Take ?pg_Line ?hd_Line ?po_Line ?sa_Line ?ca_Line ?mo_Line ?mk_Line ?kp_Line ?su_Line_Line ?na_shelf_Line ?na_amount_Line ?na_line_Line ?na_deal_Line ?na_name_Line ?na_place_Line ?pg_Offer ?hd_Offer ?po_Offer ?sa_Offer ?ca_Offer ?mo_Offer ?mk_Offer ?kp_Offer ?su_Offer_Offer ?na_shelf_Offer ?na_amount_Offer ?na_line_Offer ?na_deal_Offer ?na_name_Offer ?na_place_Offer ?pg_Off ?hd_Off ?po_Off ?sa_Off ?ca_Off ?mo_Off ?mk_Off ?kp_Off ?su_Off_Off ?na_shelf_Off ?na_amount_Off ?na_line_Off ?na_deal_Off ?na_name_Off ?na_place_Off ?pg_Put ?hd_Put ?po_Put ?sa_Put ?ca_Put ?mo_Put ?mk_Put ?kp_Put ?su_Put_Put ?na_shelf_Put ?na_amount_Put ?na_line_Put ?na_deal_Put ?na_name_Put ?na_place_Put ?pg_Bell ?hd_Bell ?po_Bell ?sa_Bell ?ca_Bell ?mo_Bell ?mk_Bell ?kp_Bell ?su_Bell_Bell ?in_Bell ?na_shelf_Bell ?na_amount_Bell ?na_line_Bell ?na_deal_Bell ?na_name_Bell ?na_place_Bell
    (case mc_HallError => k_is)
    (case mc_NoName => k_is)
    (case mc_NoAmount => k_is)
    (case mc_NoLeg => k_is)
    (case mc_NotWaiting => k_is)
    (case mc_Twice => k_is)
    (case mc_TooLittle => k_is)
    (case mc_NotNow => k_is)
    (case mc_NotForetold => k_is)
    (case mc_NoRow => k_is)
    (case mc_NoBack => k_is)
    (case mc_Lay => k_is)
    (case mc_Take => k_is)
    (case mc_Line => k_is)
    (case mc_Offer => k_is)
    (case mc_Off => k_is)
    (case mc_Put => k_is)
    (case mc_Bell => k_is)
    (case a0 => k_is)
    (case l0 => k_is)
    (case c0 => k_is)
    (case k0 => k_is)
    (case a1 => k_is)
    (case l1 => k_is)
    (case c1 => k_is)
    (case k1 => k_is)
    (case a2 => k_is)
    (case l2 => k_is)
    (case c2 => k_is)
    (case k2 => k_is)
    (case a3 => k_is)
    (case l3 => k_is)
    (case c3 => k_is)
    (case k3 => k_is)
    (case a4 => k_is)
    (case l4 => k_is)
    (case c4 => k_is)
    (case k4 => k_is)
    (case a5 => k_is)
    (case l5 => k_is)
    (case c5 => k_is)
    (case k5 => k_is)
    (case a6 => k_is)
    (case l6 => k_is)
    (case c6 => k_is)
    (case k6 => k_is)
    (case a7 => k_is)
    (case l7 => k_is)
    (case c7 => k_is)
    (case k7 => k_is)
    (case a8 => k_is)
    (case l8 => k_is)
    (case c8 => k_is)
    (case k8 => k_is)
    (case a9 => k_is)
    (case l9 => k_is)
    (case c9 => k_is)
    (case k9 => k_is)
    (case a10 => k_is)
    (case l10 => k_is)
    (case c10 => k_is)
    (case k10 => k_is)
    (case a11 => k_is)
    (case l11 => k_is)
    (case c11 => k_is)
    (case k11 => k_is)
    (case a12 => k_is)
    (case l12 => k_is)
    (case c12 => k_is)
    (case k12 => k_is)
    (case a13 => k_is)
    (case l13 => k_is)
    (case c13 => k_is)
    (case k13 => k_is)
    (case a14 => k_is)
    (case l14 => k_is)
    (case c14 => k_is)
    (case k14 => k_is)
    (case a15 => k_is)
    (case l15 => k_is)
    (case c15 => k_is)
    (case k15 => k_is)
    (case a16 => k_is)
    (case l16 => k_is)
    (case c16 => k_is)
    (case k16 => k_is)
    (case a17 => k_is)
    (case l17 => k_is)
    (case c17 => k_is)
    (case k17 => k_is)
    (case a18 => k_is)
    (case l18 => k_is)
    (case c18 => k_is)
    (case k18 => k_is)
    (case a19 => k_is)
    (case l19 => k_is)
    (case c19 => k_is)
    (case k19 => k_is)
    (case a20 => k_is)
    (case l20 => k_is)
    (case c20 => k_is)
    (case k20 => k_is)
    (case a21 => k_is)
    (case l21 => k_is)
    (case c21 => k_is)
    (case k21 => k_is)
    (case a22 => k_is)
    (case l22 => k_is)
    (case c22 => k_is)
    (case k22 => k_is)
    (case a23 => k_is)
    (case l23 => k_is)
    (case c23 => k_is)
    (case k23 => k_is)
    (case a24 => k_is)
    (case l24 => k_is)
    (case c24 => k_is)
    (case k24 => k_is)
    (case a25 => k_is)
    (case l25 => k_is)
    (case c25 => k_is)
    (case k25 => k_is)
    (case a26 => k_is)
    (case l26 => k_is)
    (case c26 => k_is)
    (case k26 => k_is)
    (case a27 => k_is)
    (case w27 => k_is)
    (case l27 => k_is)
    (case c27 => k_is)
    (case k27 => k_is)
    (case a28 => k_is)
    (case w28 => k_is)
    (case l28 => k_is)
    (case c28 => k_is)
    (case k28 => k_is)
    (case a29 => k_is)
    (case w29 => k_is)
    (case l29 => k_is)
    (case c29 => k_is)
    (case k29 => k_is)
    (case a30 => k_is)
    (case w30 => k_is)
    (case l30 => k_is)
    (case c30 => k_is)
    (case k30 => k_is)
    (case a31 => k_is)
    (case w31 => k_is)
    (case l31 => k_is)
    (case c31 => k_is)
    (case k31 => k_is)
    (case a32 => k_is)
    (case w32 => k_is)
    (case l32 => k_is)
    (case c32 => k_is)
    (case k32 => k_is)
    (case a33 => k_is)
    (case w33 => k_is)
    (case l33 => k_is)
    (case c33 => k_is)
    (case k33 => k_is)
    (case a34 => k_is)
    (case w34 => k_is)
    (case l34 => k_is)
    (case c34 => k_is)
    (case k34 => k_is)
    (case a35 => k_is)
    (case w35 => k_is)
    (case l35 => k_is)
    (case c35 => k_is)
    (case k35 => k_is)
    (case a36 => k_is)
    (case w36 => k_is)
    (case l36 => k_is)
    (case c36 => k_is)
    (case k36 => k_is)
    (case a37 => k_is)
    (case w37 => k_is)
    (case l37 => k_is)
    (case c37 => k_is)
    (case k37 => k_is)
    (case a38 => k_is)
    (case w38 => k_is)
    (case l38 => k_is)
    (case c38 => k_is)
    (case k38 => k_is)
    (case a39 => k_is)
    (case w39 => k_is)
    (case l39 => k_is)
    (case c39 => k_is)
    (case k39 => k_is)
    (case z_ValueError => k_is)
    (case z_bool => k_is)
    (case z_int => k_is)
    (case z_isinstance => k_is)
    (case z_len => k_is)
    (case z_list => k_is)
    (case z_min => k_is)
    (case z_range => k_is)
    (case z_str => k_is)
    (case z_tuple => k_is)
    (case v_LETTERS => k_is)
    (case r_LETTERS => exact ⟨_, rfl⟩)
    (case v_FIGURES => k_is)
    (case r_FIGURES => exact ⟨_, rfl⟩)
    (case x_hn => k_is)
    (case x_ht => k_is)
    (case xe_NoName => k_exc)
    (case kp_NoName => k_is)
    (case sb_NoName => k_is)
    (case ty_NoName => k_is)
    (case ga_NoName => k_is)
    (case gg_NoName => k_is)
    (case hd_NoName => k_is)
    (case ca_NoName => k_is)
    (case mo_NoName => k_is)
    (case su_NoName_NoName => k_is)
    (case sv_NoName => k_is)
    (case xe_NoLeg => k_exc)
    (case kp_NoLeg => k_is)
    (case sb_NoLeg => k_is)
    (case ty_NoLeg => k_is)
    (case ga_NoLeg => k_is)
    (case gg_NoLeg => k_is)
    (case hd_NoLeg => k_is)
    (case ca_NoLeg => k_is)
    (case mo_NoLeg => k_is)
    (case su_NoLeg_NoLeg => k_is)
    (case sv_NoLeg => k_is)
    (case xe_NoRow => k_exc)
    (case kp_NoRow => k_is)
    (case sb_NoRow => k_is)
    (case ty_NoRow => k_is)
    (case ga_NoRow => k_is)
    (case gg_NoRow => k_is)
    (case hd_NoRow => k_is)
    (case ca_NoRow => k_is)
    (case mo_NoRow => k_is)
    (case su_NoRow_NoRow => k_is)
    (case sv_NoRow => k_is)
    (case ic_HallError => k_is)
    (case ty_HallError => k_is)
    (case su_NoName_HallError => k_is)
    (case su_NoLeg_HallError => k_is)
    (case su_NoRow_HallError => k_is)
    (case sb_HallError => k_is)
    (case hd_HallError => k_is)
    (case ic_NoName => k_is)
    (case su_NoLeg_NoName => k_is)
    (case su_NoRow_NoName => k_is)
    (case ic_NoAmount => k_is)
    (case ty_NoAmount => k_is)
    (case su_NoName_NoAmount => k_is)
    (case su_NoLeg_NoAmount => k_is)
    (case su_NoRow_NoAmount => k_is)
    (case ic_NoLeg => k_is)
    (case su_NoName_NoLeg => k_is)
    (case su_NoRow_NoLeg => k_is)
    (case ic_NotWaiting => k_is)
    (case ty_NotWaiting => k_is)
    (case su_NoName_NotWaiting => k_is)
    (case su_NoLeg_NotWaiting => k_is)
    (case su_NoRow_NotWaiting => k_is)
    (case ic_Twice => k_is)
    (case ty_Twice => k_is)
    (case su_NoName_Twice => k_is)
    (case su_NoLeg_Twice => k_is)
    (case su_NoRow_Twice => k_is)
    (case ic_TooLittle => k_is)
    (case ty_TooLittle => k_is)
    (case su_NoName_TooLittle => k_is)
    (case su_NoLeg_TooLittle => k_is)
    (case su_NoRow_TooLittle => k_is)
    (case ic_NotNow => k_is)
    (case ty_NotNow => k_is)
    (case su_NoName_NotNow => k_is)
    (case su_NoLeg_NotNow => k_is)
    (case su_NoRow_NotNow => k_is)
    (case ic_NotForetold => k_is)
    (case ty_NotForetold => k_is)
    (case su_NoName_NotForetold => k_is)
    (case su_NoLeg_NotForetold => k_is)
    (case su_NoRow_NotForetold => k_is)
    (case ic_NoRow => k_is)
    (case su_NoName_NoRow => k_is)
    (case su_NoLeg_NoRow => k_is)
    (case ic_NoBack => k_is)
    (case ty_NoBack => k_is)
    (case su_NoName_NoBack => k_is)
    (case su_NoLeg_NoBack => k_is)
    (case su_NoRow_NoBack => k_is)
    (case pg_Lay => k_is)
    (case hd_Lay => k_is)
    (case po_Lay => k_is)
    (case sa_Lay => k_is)
    (case ca_Lay => k_is)
    (case mo_Lay => k_is)
    (case mk_Lay => k_is)
    (case kp_Lay => k_is)
    (case su_Lay_Lay => k_is)
    (case na_shelf_Lay => k_is)
    (case na_amount_Lay => k_is)
    (case na_line_Lay => k_is)
    (case na_deal_Lay => k_is)
    (case na_name_Lay => k_is)
    (case na_place_Lay => k_is)
    (case pg_Take => k_is)
    (case hd_Take => k_is)
    (case po_Take => k_is)
    (case sa_Take => k_is)
    (case ca_Take => k_is)
    (case mo_Take => k_is)
    (case mk_Take => k_is)
    (case kp_Take => k_is)
    (case su_Take_Take => k_is)
    (case na_shelf_Take => k_is)
    (case na_amount_Take => k_is)
    (case na_line_Take => k_is)
    (case na_deal_Take => k_is)
    (case na_name_Take => k_is)
    (case na_place_Take => k_is)
    (case pg_Line => k_is)
    (case hd_Line => k_is)
    (case po_Line => k_is)
    (case sa_Line => k_is)
    (case ca_Line => k_is)
    (case mo_Line => k_is)
    (case mk_Line => k_is)
    (case kp_Line => k_is)
    (case su_Line_Line => k_is)
    (case na_shelf_Line => k_is)
    (case na_amount_Line => k_is)
    (case na_line_Line => k_is)
    (case na_deal_Line => k_is)
    (case na_name_Line => k_is)
    (case na_place_Line => k_is)
    (case pg_Offer => k_is)
    (case hd_Offer => k_is)
    (case po_Offer => k_is)
    (case sa_Offer => k_is)
    (case ca_Offer => k_is)
    (case mo_Offer => k_is)
    (case mk_Offer => k_is)
    (case kp_Offer => k_is)
    (case su_Offer_Offer => k_is)
    (case na_shelf_Offer => k_is)
    (case na_amount_Offer => k_is)
    (case na_line_Offer => k_is)
    (case na_deal_Offer => k_is)
    (case na_name_Offer => k_is)
    (case na_place_Offer => k_is)
    (case pg_Off => k_is)
    (case hd_Off => k_is)
    (case po_Off => k_is)
    (case sa_Off => k_is)
    (case ca_Off => k_is)
    (case mo_Off => k_is)
    (case mk_Off => k_is)
    (case kp_Off => k_is)
    (case su_Off_Off => k_is)
    (case na_shelf_Off => k_is)
    (case na_amount_Off => k_is)
    (case na_line_Off => k_is)
    (case na_deal_Off => k_is)
    (case na_name_Off => k_is)
    (case na_place_Off => k_is)
    (case pg_Put => k_is)
    (case hd_Put => k_is)
    (case po_Put => k_is)
    (case sa_Put => k_is)
    (case ca_Put => k_is)
    (case mo_Put => k_is)
    (case mk_Put => k_is)
    (case kp_Put => k_is)
    (case su_Put_Put => k_is)
    (case na_shelf_Put => k_is)
    (case na_amount_Put => k_is)
    (case na_line_Put => k_is)
    (case na_deal_Put => k_is)
    (case na_name_Put => k_is)
    (case na_place_Put => k_is)
    (case pg_Bell => k_is)
    (case hd_Bell => k_is)
    (case po_Bell => k_is)
    (case sa_Bell => k_is)
    (case ca_Bell => k_is)
    (case mo_Bell => k_is)
    (case mk_Bell => k_is)
    (case kp_Bell => k_is)
    (case su_Bell_Bell => k_is)
    (case in_Bell => k_is)
    (case na_shelf_Bell => k_is)
    (case na_amount_Bell => k_is)
    (case na_line_Bell => k_is)
    (case na_deal_Bell => k_is)
    (case na_name_Bell => k_is)
    (case na_place_Bell => k_is)
