import PyProof.Rows.All
import HandS.DictComp
import Wide.All
import OpenK.AllK
import Wide.FinOn
import HandS.ForMost
import HandS.ForExc
import HandS.Defaults
import KE.KDictKeyed
import KE.KSortTupAny
import HandS.Flow
import HandS.TupAny
import HandS.Star
import KE.GoesMore
import KE.GoesEnum
import HandS.Zip
import HandS.Conv
import HandS.TupSets
import HandS.Keys
import HandS.SortRule
import HandS.SetKeys
import HandS.Style
import HandS.WordsExc
import HandS.Ends
import HandS.Wide
import HandS.WideBits
import HandS.Deep
import HandS.IsInst
import HandS.Text
import HandS.TupMul
import HandS.TupLe
import HandS.SortInts
import PyProof.Rows.SeqMore
import PyProof.ListMulRoad
import PyProof.StrLawsRepr
import PyProof.ReprLen
import HandS.RaiseMore
import HandS.FStr
import PyProof.FString3
import PyProof.Rows.StrIntSpec
import HandS.Replace
import HandS.Strs
import HandS.More
import HandS.Head0
import HandS.Head1
import HandS.Head2
import HandS.HeadEnd
import HandS.HeadHook1
import HandS.HeadHook2
import PySem.Challenge.RW_flashtrees_k03_whole_pages_of_anything
import PyProof.StrLawsIn
import PyProof.Rows.StrBin
set_option Elab.async false
set_option linter.all false
set_option maxRecDepth 100000
namespace Ft
open PySem
abbrev D := PyData
/-- a value: data, or an object of the store -/
inductive W where
  | d (x : D)
  | ref (n : Nat)
/-- an object of the store -/
inductive Ob where
  | dl (xs : List D)
  | dd (kvs : List (L2.Key × D))
  | rl (xs : List W)
  /-- a tuple of anything -/
  | rt (xs : List W)
  /-- a dict, its keys ints and texts, or tuples -/
  | mp (kvs : List (NestedKey × W))
  | ins (c : Nat) (fs : List (Str × W))
  /-- a list that changes no more -/
  | fz (xs : List D)
  /-- a well (only in what is wanted, FtWp) -/
  | tok
/-- an error: its class, its fields -/
structure Ev where
  cls : Nat
  fs : List (Str × D)
abbrev Sto := List Ob
abbrev Lo := List (Option W)
inductive Res (α : Type) where
  | ok (a : α) (S : Sto)
  | exc (e : Ev) (S : Sto)
  | no
def Res.bind {α β : Type} (r : Res α) (f : α → Sto → Res β) : Res β := match r with
  | .ok a S => f a S
  | .exc e S => .exc e S
  | .no => .no
@[simp] theorem Res.bind_ok {α β : Type} (a : α) (S : Sto) (f : α → Sto → Res β) : (Res.ok a S).bind f = f a S := rfl
@[simp] theorem Res.bind_exc {α β : Type} (e : Ev) (S : Sto) (f : α → Sto → Res β) : (Res.exc e S : Res α).bind f = .exc e S := rfl
@[simp] theorem Res.bind_no {α β : Type} (f : α → Sto → Res β) : (Res.no : Res α).bind f = .no := rfl
/-- data or nothing -/
def opt {α : Type} (o : Option α) (S : Sto) : Res α := match o with
  | some a => .ok a S
  | none => .no
@[simp] theorem opt_some {α : Type} (a : α) (S : Sto) : opt (some a) S = .ok a S := rfl
@[simp] theorem opt_none {α : Type} (S : Sto) : opt (none : Option α) S = .no := rfl
def W.data : W → Option D
  | .d x => some x
  | .ref _ => none
def datas : List W → Option (List D)
  | [] => some []
  | .d x :: r => match datas r with
    | some xs => some (x :: xs)
    | none => none
  | .ref _ :: _ => none
mutual
inductive Ex where
  | var (i : Nat)
  | c (x : D)
  | op1 (g : D → Option D) (a : Ex)
  | op2 (g : D → D → Option D) (a b : Ex)
  | opn (g : List D → Option D) (es : Exs)
  | ite (t : Te) (a b : Ex)
  | and (a b : Ex)
  | or (a b : Ex)
  | not (a : Ex)
  | chain (g h : D → D → Option D) (a b c : Ex)
  | tup (es : Exs)
  | lst (es : Exs)
  | nlst (es : Exs)
  | sub (a i : Ex)
  | slice (a lo hi : Ex)
  | sliceL (a lo : Ex)
  | sliceR (a hi : Ex)
  | sliceN (a : Ex)
  | call (f : Nat) (es : Exs)
  | callk (f : Nat) (es ks : Exs) (perm : List Nat)
  | comp (vs : List Nat) (elt : Ex) (tg : Tg) (it : Ie) (t : Te)
  /-- .. that makes a list that may change -/
  | compN (vs : List Nat) (elt : Ex) (tg : Tg) (it : Ie) (t : Te)
  /-- a dict, its keys ints or texts -/
  | dcomp (vs : List Nat) (key val : Ex) (tg : Tg) (it : Ie) (t : Te)
  | inD (a b : Ex)
  /-- {} -/
  | dnew
  /-- {} that never changes -/
  | dz
  /-- a list of anything -/
  | rlst (es : Exs)
  | rtup (es : Exs)
  | cmpR (g : D → D → Option D) (a b : Ex)
  | nbin (g : D → D → Option D) (a b : Ex)
  /-- of a list of anything, of a dict -/
  | subR (a i : Ex)
  /-- d.get(k, x) -/
  | dget (a k x : Ex)
  /-- d.setdefault(k, x) -/
  | dset (a k x : Ex)
  /-- list(d) -/
  | dkeys (a : Ex)
  /-- sorted(d) -/
  | dsort (a : Ex)
  /-- d == {}, d != {} -/
  | demp (b : Bool) (a : Ex)
  | comp2 (vs vs1 : List Nat) (elt : Ex) (tg : Tg) (it : Ie) (tg1 : Tg) (it1 : Ie) (t1 : Te)
  | mstr (g : Str → List D → Option D) (o : Ex) (es : Exs)
  | mlst (gd : List D → List D → Option D) (gs : List D → List D → Option (D × List D)) (o : Ex) (es : Exs)
  | len (a : Ex)
  /-- a list that changes no more, from here on -/
  | frz (a : Ex)
  /-- out of reach -/
  | bad
inductive Exs where
  | nil
  | cons (e : Ex) (r : Exs)
  | star (e : Ex) (r : Exs)
/-- a test -/
inductive Te where
  | tt
  | e (x : Ex)
  | and (a b : Te)
  | or (a b : Te)
  | not (a : Te)
  | ite (c a b : Te)
/-- what a loop goes over -/
inductive Ie where
  | seq (e : Ex)
  | rng (lo hi : Ex)
  | rng3 (lo hi st : Ex)
  | enum (e : Ex)
  | zip (a b : Ex)
/-- targets; a tuple's: t a (t b e) -/
inductive Tg where
  | v (i : Nat)
  | t (l r : Tg)
  | e
  | s (o i : Ex)
  /-- two names, of a tuple of anything -/
  | u (i j : Nat)
  /-- names, of a tuple of anything -/
  | us (is : List Nat)
end
/-- truth -/
def dTruth : D → Option Bool
  | .none => some false
  | .bool b => some b
  | .int i => some (i != 0)
  | .str s => if s.length ≤ sizeLine then some (s.length != 0) else none
  | .list xs => some (!xs.isEmpty)
  | .tuple xs => some (!xs.isEmpty)
  | .dict _ => none
def wTruth (w : W) (S : Sto) : Option Bool := match w with
  | .d x => dTruth x
  | .ref n => match S[n]? with
    | some (.dl xs) => some (!xs.isEmpty)
    | some (.fz xs) => some (!xs.isEmpty)
    | _ => none
/-- what is walked -/
def dItems : D → Option (List D)
  | .list xs => some xs
  | .tuple xs => some xs
  | .str s => some (s.cps.toList.map fun c => .str ⟨#[c]⟩)
  | _ => none
/-- a list's, a tuple's items -/
def dSeq : D → Option (List D)
  | .list xs => some xs
  | .tuple xs => some xs
  | _ => none
def rngItems (lo hi : Int) : List D := (List.range (hi - lo).toNat).map fun (k : Nat) => .int (lo + (k : Int))
def rngItems3 (lo hi st : Int) : List D := (List.range (Builtin.Range.rangeSize lo hi st).toNat).map fun (k : Nat) => .int (lo + (k : Int) * st)
def enumItems (xs : List D) (k : Nat) : List D := match xs with
  | [] => []
  | x :: r => .tuple [.int (k : Int), x] :: enumItems r (k + 1)
def zipItems : List D → List D → List D
  | x :: xs, y :: ys => .tuple [x, y] :: zipItems xs ys
  | _, _ => []
def dSub : D → D → Option D
  | .list xs, .int i => L2.atI xs i
  | .tuple xs, .int i => L2.atI xs i
  | .str s, .int i => if s.length ≤ sizeLine then (L2.atI s.cps.toList i).map fun c => .str ⟨#[c]⟩ else none
  | _, _ => none
def setAll : List (Option W) → List Nat → List W → List (Option W)
  | τ, i :: is, w :: ws => setAll (τ.set i (some w)) is ws
  | τ, _, _ => τ
mutual
def kyD : D → Option NestedKey
  | .none => some .none
  | .int i => some (.num i)
  | .str x => some (.text x)
  | .tuple xs => (kyDs xs).map .tup
  | _ => none
def kyDs : List D → Option (List NestedKey)
  | [] => some []
  | x :: r => match kyD x, kyDs r with
    | some k, some ks => some (k :: ks)
    | _, _ => none
end
/-- a dict's key -/
def keyM : D → Option NestedKey
  | .int i => some (.num i)
  | .str x => some (.text x)
  | .tuple xs => (kyDs xs).bind fun ks => if (NestedKey.tup ks).depth ≤ 8 then some (.tup ks) else none
  | _ => none
def isTup : NestedKey → Bool
  | .tup _ => true
  | _ => false
/-- one kind of keys -/
def okM (kvs : List (NestedKey × W)) (k : NestedKey) : Bool := kvs.all fun kv => isTup kv.1 == isTup k
def atM (kvs : List (NestedKey × W)) (k : NestedKey) : Option W := (kvs.find? fun kv => decide (kv.1 = k)).map (·.2)
def putM (kvs : List (NestedKey × W)) (k : NestedKey) (w : W) : List (NestedKey × W) :=
  if (kvs.any fun kv => decide (kv.1 = k)) = true then kvs.map (fun kv => if kv.1 = k then (kv.1, w) else kv) else kvs ++ [(k, w)]
/-- an element of a list of anything, of a dict -/
def subW (S : Sto) (w u : W) : Option W := match w with
  | .d x => (match u with
    | .d y => (dSub x y).map .d
    | .ref _ => none)
  | .ref n => (match S[n]?, u with
    | some (.dl xs), .d y => (dSub (.list xs) y).map .d
    | some (.fz xs), .d y => (dSub (.list xs) y).map .d
    | some (.rl ws), .d (.int i) => L2.atI ws i
    | some (.mp kvs), .d y => (keyM y).bind fun k => if okM kvs k = true then atM kvs k else none
    | _, _ => none)
/-- a dict of the store, and a key of its kind -/
def mpAt (S : Sto) (w u : W) : Option (Nat × List (NestedKey × W) × NestedKey) := match w, u with
  | .ref n, .d y => (match S[n]? with
    | some (.mp kvs) => (keyM y).bind fun k => if okM kvs k = true then some (n, kvs, k) else none
    | _ => none)
  | _, _ => none
def isMp (S : Sto) : W → Bool
  | .ref n => (match S[n]? with
    | some (.mp _) => true
    | _ => false)
  | _ => false
def W.isD : W → Bool
  | .d _ => true
  | .ref _ => false
def allD (kvs : List (NestedKey × W)) : Bool := kvs.all fun kv => kv.2.isD
/-- texts and numbers -/
def atomK : NestedKey → Option (Int ⊕ List Nat)
  | .num i => some (.inl i)
  | .text x => some (.inr x.cps.toList)
  | _ => none
def atomsK : List NestedKey → Option (List (Int ⊕ List Nat))
  | [] => some []
  | k :: r => match atomK k, atomsK r with
    | some a, some b => some (a :: b)
    | _, _ => none
def flatK : NestedKey → List (Int ⊕ List Nat)
  | .tup ks => (atomsK ks).getD []
  | _ => []
def isFlat : NestedKey → Bool
  | .tup (.text _ :: r) => (atomsK r).isSome
  | _ => false
/-- their order is told -/
def cmpF : List (Int ⊕ List Nat) → List (Int ⊕ List Nat) → Bool
  | .inl a :: xs, .inl b :: ys => if a = b then cmpF xs ys else true
  | .inr a :: xs, .inr b :: ys => if a = b then cmpF xs ys else true
  | [], _ => true
  | _, [] => true
  | _, _ => false
def ltK (k j : NestedKey) : Bool := PyProof.Rows.lexLt PyProof.Rows.itemOrd (flatK k) (flatK j)
def insK (k : NestedKey) : List NestedKey → List NestedKey
  | [] => [k]
  | j :: r => if ltK k j = true then k :: j :: r else j :: insK k r
def sortK : List NestedKey → List NestedKey
  | [] => []
  | k :: r => insK k (sortK r)
/-- sorted(d) -/
def sortM (kvs : List (NestedKey × W)) : Option (List D) :=
  let ks := kvs.map (·.1)
  if ks.length ≤ sizeLine ∧ ks.all isFlat = true ∧ (ks.all fun k => ks.all fun j => cmpF (flatK k) (flatK j)) = true then some ((sortK ks).map NestedKey.data) else none
/-- a slice's part -/
def part : W → Option Int
  | .d (.int i) => some i
  | _ => none
def cut (xs : List D) (lo hi : Option Int) : List D := (xs.drop (HT.sIx xs.length 0 lo)).take (HT.sIx xs.length xs.length hi - HT.sIx xs.length 0 lo)
def dSlice (x : D) (l h : Option Int) : Option D := match x with
  | .list xs => some (.list (cut xs l h))
  | .tuple xs => some (.tuple (cut xs l h))
  | .str s => if s.length ≤ sizeLine then some (.str (L2.cutS s l h)) else none
  | _ => none
/-- a store's object as data (a list alone) -/
def asData (S : Sto) : W → Option D
  | .d x => some x
  | .ref n => match S[n]? with
    | some (.dl xs) => some (.list xs)
    | some (.fz xs) => some (.list xs)
    | _ => none
def wip (τ : Lo) : List Nat → Lo
  | [] => τ
  | v :: vs => (wip τ vs).set v none
/-- o[i] = w -/
def putW (p q w : W) (S2 : Sto) : Option Sto := match p, q with
  | .ref n, .d y => (match S2[n]? with
    | some (.dl xs) => (match y, w with
      | .int k, .d x => (L2.ixN xs.length k).map fun j => S2.set n (.dl (xs.set j x))
      | _, _ => none)
    | some (.rl ws) => (match y with
      | .int k => (L2.ixN ws.length k).map fun j => S2.set n (.rl (ws.set j w))
      | _ => none)
    | some (.mp kvs) => (keyM y).bind fun k => if okM kvs k = true ∧ kvs.length < sizeLine then some (S2.set n (.mp (putM kvs k w))) else none
    | _ => none)
  | _, _ => none
/-- what a def's call does, by its number -/
abbrev Fs := Nat → List W → Sto → Res W
section
variable (F : Fs)
def pick (ws : List W) : List Nat → Option (List W)
  | [] => some []
  | j :: r => match ws[j]?, pick ws r with
    | some w, some us => some (w :: us)
    | _, _ => none
/-- all of them picked -/
def pickx (ws : List W) (perm : List Nat) : Option (List W) := if ws.length = perm.length then pick ws perm else none
/-- errors are not looked for -/
def Res.dry {α : Type} : Res α → Res α
  | .ok a S => .ok a S
  | _ => .no
/-- a comprehension's turns -/
def compL (put : D → Sto → Res Lo) (t : Lo → Sto → Res Bool) (e : Lo → Sto → Res W) : List D → Sto → Res (List D)
  | [], S => .ok [] S
  | x :: r, S => (put x S).bind fun τ S0 => (t τ S0).bind fun b S1 => if b = true then (e τ S1).bind fun w S2 => match w with
        | .d y => (compL put t e r S2).bind fun ys S3 => .ok (y :: ys) S3
        | .ref _ => .no
      else compL put t e r S1
/-- dicts by pairs -/
def keyD : D → Option L2.Key
  | .int i => some (.inl i)
  | .str s => some (.inr s)
  | _ => none
def putD (kvs : List (L2.Key × D)) (k : L2.Key) (v : D) : List (L2.Key × D) :=
  if (kvs.any fun kv => decide (kv.1 = k)) = true then kvs.map (fun kv => if kv.1 = k then (kv.1, v) else kv) else kvs ++ [(k, v)]
def dictOf : List (L2.Key × D) → List D → Option (List (L2.Key × D))
  | kvs, [] => some kvs
  | kvs, .tuple [k, v] :: r => (keyD k).bind fun k => dictOf (putD kvs k v) r
  | _, _ => none
def pairW : W → W → Option W
  | .d k, .d v => (keyD k).map fun _ => .d (.tuple [k, v])
  | _, _ => none
def hasD (S : Sto) : W → W → Option Bool
  | .d x, .ref n => (match S[n]? with
    | some (.dd kvs) => (keyD x).bind fun k => some (kvs.any fun kv => decide (kv.1 = k))
    | some (.mp kvs) => (keyM x).bind fun k => if okM kvs k = true then some (atM kvs k).isSome else none
    | _ => none)
  | _, _ => none
/-- a comprehension's turns, two sources -/
def compL2 (put : D → Sto → Res Lo) (inner : Lo → Sto → Res (List D)) : List D → Sto → Res (List D)
  | [], S => .ok [] S
  | x :: r, S => (put x S).bind fun τ S0 => (inner τ S0).bind fun ys S1 => (compL2 put inner r S1).bind fun zs S2 => .ok (ys ++ zs) S2
mutual
def ev (τ : Lo) (S : Sto) : Ex → Res W
  | .var i => match τ[i]? with
    | some (some w) => .ok w S
    | _ => .no
  | .c x => .ok (.d x) S
  | .op1 g a => (ev τ S a).bind fun w S1 => match w with
    | .d x => opt ((g x).map W.d) S1
    | .ref _ => .no
  | .op2 g a b => (ev τ S a).bind fun w S1 => (ev τ S1 b).bind fun u S2 => match w, u with
    | .d x, .d y => opt ((g x y).map W.d) S2
    | _, _ => .no
  | .opn g es => (evs τ S es).bind fun ws S1 => match datas ws with
    | some xs => opt ((g xs).map W.d) S1
    | none => .no
  | .ite t a b => (evT τ S t).bind fun c S1 => if c = true then ev τ S1 a else ev τ S1 b
  | .and a b => (ev τ S a).bind fun w S1 => match wTruth w S1 with
    | some true => ev τ S1 b
    | some false => .ok w S1
    | none => .no
  | .or a b => (ev τ S a).bind fun w S1 => match wTruth w S1 with
    | some true => .ok w S1
    | some false => ev τ S1 b
    | none => .no
  | .not a => (ev τ S a).bind fun w S1 => match wTruth w S1 with
    | some b => .ok (.d (.bool (!b))) S1
    | none => .no
  | .chain g h a b c => (ev τ S a).bind fun w S1 => (ev τ S1 b).bind fun u S2 => match w, u with
    | .d x, .d y => (match g x y with
      | some (.bool true) => (ev τ S2 c).bind fun v S3 => match v with
        | .d z => opt ((h y z).map W.d) S3
        | .ref _ => .no
      | some (.bool false) => .ok (.d (.bool false)) S2
      | _ => .no)
    | _, _ => .no
  | .tup es => (evs τ S es).bind fun ws S1 => match datas ws with
    | some xs => if xs.length ≤ sizeLine then .ok (.d (.tuple xs)) S1 else .no
    | none => .no
  | .lst es => (evs τ S es).bind fun ws S1 => match datas ws with
    | some xs => if xs.length ≤ sizeLine then .ok (.d (.list xs)) S1 else .no
    | none => .no
  | .nlst es => (evs τ S es).bind fun ws S1 => match datas ws with
    | some xs => if xs.length ≤ sizeLine then .ok (.ref S1.length) (S1 ++ [.dl xs]) else .no
    | none => .no
  | .sub a i => (ev τ S a).bind fun w S1 => (ev τ S1 i).bind fun u S2 => match asData S2 w, u with
    | some x, .d y => opt ((dSub x y).map W.d) S2
    | _, _ => .no
  | .slice a lo hi => (ev τ S a).bind fun w S1 => (ev τ S1 lo).bind fun u S2 => match part u with
    | some l => (ev τ S2 hi).bind fun v S3 => (match asData S3 w, part v with
      | some x, some h => opt ((dSlice x (some l) (some h)).map W.d) S3
      | _, _ => .no)
    | none => .no
  | .sliceL a lo => (ev τ S a).bind fun w S1 => (ev τ S1 lo).bind fun u S2 => match asData S2 w, part u with
    | some x, some l => opt ((dSlice x (some l) none).map W.d) S2
    | _, _ => .no
  | .sliceR a hi => (ev τ S a).bind fun w S1 => (ev τ S1 hi).bind fun u S2 => match asData S2 w, part u with
    | some x, some h => opt ((dSlice x none (some h)).map W.d) S2
    | _, _ => .no
  | .sliceN a => (ev τ S a).bind fun w S1 => match asData S1 w with
    | some x => opt ((dSlice x none none).map W.d) S1
    | _ => .no
  | .call f es => (evs τ S es).bind fun ws S1 => F f ws S1
  | .callk f es ks perm => (evs τ S es).bind fun ws S1 => (evs τ S1 ks).bind fun wk S2 => match pickx (ws ++ wk) perm with
    | some us => F f us S2
    | none => .no
  | .comp vs e tg it t => (evI τ S it).bind fun xs S1 => ((compL (fun x S' => put (wip τ vs) S' (.d x) tg) (fun τ' S' => evT τ' S' t) (fun τ' S' => ev τ' S' e) xs S1).dry).bind fun ys S2 => if ys.length ≤ sizeLine then .ok (.d (.list ys)) S2 else .no
  | .compN vs e tg it t => (evI τ S it).bind fun xs S1 => ((compL (fun x S' => put (wip τ vs) S' (.d x) tg) (fun τ' S' => evT τ' S' t) (fun τ' S' => ev τ' S' e) xs S1).dry).bind fun ys S2 => if ys.length ≤ sizeLine then .ok (.ref S2.length) (S2 ++ [.dl ys]) else .no
  | .dcomp vs kx vx tg it t => (evI τ S it).bind fun xs S1 => ((compL (fun x S' => put (wip τ vs) S' (.d x) tg) (fun τ' S' => evT τ' S' t) (fun τ' S' => (ev τ' S' kx).bind fun w S2 => (ev τ' S2 vx).bind fun u S3 => opt (pairW w u) S3) xs S1).dry).bind fun ys S2 => if ys.length ≤ sizeLine then (match dictOf [] ys with
    | some kvs => .ok (.ref S2.length) (S2 ++ [.dd kvs])
    | none => .no) else .no
  | .inD a b => (ev τ S a).bind fun w S1 => (ev τ S1 b).bind fun u S2 => match hasD S2 w u with
    | some c => .ok (.d (.bool c)) S2
    | none => .no
  | .dnew => .ok (.ref S.length) (S ++ [.mp []])
  | .dz => .ok (.d (.dict [])) S
  | .nbin g a b => (ev τ S a).bind fun w S1 => (ev τ S1 b).bind fun u S2 => match w, u with
    | .d x, .d y => (match g x y with
      | some (.list zs) => if zs.length ≤ sizeLine then .ok (.ref S2.length) (S2 ++ [.dl zs]) else .no
      | _ => .no)
    | _, _ => .no
  | .cmpR g a b => (ev τ S a).bind fun w S1 => (ev τ S1 b).bind fun u S2 => match asData S2 w, asData S2 u with
    | some x, some y => opt ((g x y).map W.d) S2
    | _, _ => .no
  | .rtup es => (evs τ S es).bind fun ws S1 => if ws.length ≤ sizeLine then .ok (.ref S1.length) (S1 ++ [.rt ws]) else .no
  | .rlst es => (evs τ S es).bind fun ws S1 => if ws.length ≤ sizeLine then .ok (.ref S1.length) (S1 ++ [.rl ws]) else .no
  | .subR a i => (ev τ S a).bind fun w S1 => (ev τ S1 i).bind fun u S2 => opt (subW S2 w u) S2
  | .dget a k x => (ev τ S a).bind fun w S1 => if isMp S1 w = true then (ev τ S1 k).bind fun u S2 => (ev τ S2 x).bind fun v S3 => opt ((mpAt S3 w u).map fun p => (atM p.2.1 p.2.2).getD v) S3 else .no
  | .dset a k x => (ev τ S a).bind fun w S1 => if isMp S1 w = true then (ev τ S1 k).bind fun u S2 => (ev τ S2 x).bind fun v S3 => (match mpAt S3 w u with
    | some p => (match atM p.2.1 p.2.2 with
      | some z => .ok z S3
      | none => if p.2.1.length < sizeLine then .ok v (S3.set p.1 (.mp (putM p.2.1 p.2.2 v))) else .no)
    | none => .no) else .no
  | .dkeys a => (ev τ S a).bind fun w S1 => (match w with
    | .ref n => (match S1[n]? with
      | some (.mp kvs) => if kvs.length ≤ sizeLine then .ok (.d (.list (kvs.map fun kv => kv.1.data))) S1 else .no
      | _ => .no)
    | _ => .no)
  | .dsort a => (ev τ S a).bind fun w S1 => (match w with
    | .ref n => (match S1[n]? with
      | some (.mp kvs) => opt ((sortM kvs).map fun xs => W.d (.list xs)) S1
      | _ => .no)
    | _ => .no)
  | .demp b a => (ev τ S a).bind fun w S1 => (match w with
    | .ref n => (match S1[n]? with
      | some (.mp kvs) => .ok (.d (.bool (kvs.isEmpty == b))) S1
      | _ => .no)
    | _ => .no)
  | .comp2 vs vs1 e tg it tg1 it1 t1 => (evI τ S it).bind fun xs S1 => ((compL2 (fun x S' => put (wip τ vs) S' (.d x) tg) (fun τ' S' => (evI τ' S' it1).bind fun ys S2 => compL (fun x S3 => put (wip τ' vs1) S3 (.d x) tg1) (fun τ2 S3 => evT τ2 S3 t1) (fun τ2 S3 => ev τ2 S3 e) ys S2) xs S1).dry).bind fun ys S2 => if ys.length ≤ sizeLine then .ok (.d (.list ys)) S2 else .no
  | .mstr g o es => (ev τ S o).bind fun w S1 => match w with
    | .d (.str s) => (evs τ S1 es).bind fun ws S2 => (match datas ws with
      | some xs => opt ((g s xs).map W.d) S2
      | none => .no)
    | _ => .no
  | .mlst gd gs o es => (ev τ S o).bind fun w S1 => match w with
    | .d (.list ys) => (evs τ S1 es).bind fun ws S2 => (match datas ws with
      | some xs => opt ((gd ys xs).map W.d) S2
      | none => .no)
    | .ref n => (match S1[n]? with
      | some (.dl _) => (evs τ S1 es).bind fun ws S2 => (match S2[n]?, datas ws with
        | some (.dl ys), some xs => (match gs ys xs with
          | some (u, zs) => .ok (.d u) (S2.set n (.dl zs))
          | none => .no)
        | _, _ => .no)
      | _ => .no)
    | _ => .no
  | .len a => (ev τ S a).bind fun w S1 => match asData S1 w with
    | some (.list xs) => .ok (.d (.int xs.length)) S1
    | some (.tuple xs) => .ok (.d (.int xs.length)) S1
    | some (.str s) => if s.length ≤ sizeLine then .ok (.d (.int s.length)) S1 else .no
    | _ => .no
  | .frz a => (ev τ S a).bind fun w S1 => match w with
    | .d x => .ok (.d x) S1
    | .ref n => (match S1[n]? with
      | some (.dl xs) => .ok (.d (.list xs)) (S1.set n (.fz xs))
      | some (.fz xs) => .ok (.d (.list xs)) S1
      | _ => .no)
  | .bad => .no
def evs (τ : Lo) (S : Sto) : Exs → Res (List W)
  | .nil => .ok [] S
  | .cons e r => (ev τ S e).bind fun w S1 => (evs τ S1 r).bind fun ws S2 => .ok (w :: ws) S2
  | .star e r => (ev τ S e).bind fun w S1 => match w with
    | .d x => (match dSeq x with
      | some xs => (evs τ S1 r).bind fun ws S2 => .ok (xs.map W.d ++ ws) S2
      | none => .no)
    | .ref _ => .no
def evT (τ : Lo) (S : Sto) : Te → Res Bool
  | .tt => .ok true S
  | .e x => (ev τ S x).bind fun w S1 => opt (wTruth w S1) S1
  | .and a b => (evT τ S a).bind fun c S1 => if c = true then evT τ S1 b else .ok false S1
  | .or a b => (evT τ S a).bind fun c S1 => if c = true then .ok true S1 else evT τ S1 b
  | .not a => (evT τ S a).bind fun c S1 => .ok (!c) S1
  | .ite c a b => (evT τ S c).bind fun x S1 => if x = true then evT τ S1 a else evT τ S1 b
def evI (τ : Lo) (S : Sto) : Ie → Res (List D)
  | .seq e => (ev τ S e).bind fun w S1 => match w with
    | .d x => opt (dItems x) S1
    | .ref _ => .no
  | .rng a b => (ev τ S a).bind fun w S1 => (ev τ S1 b).bind fun u S2 => match w, u with
    | .d (.int i), .d (.int j) => if -(2 ^ 62) ≤ i ∧ i < 2 ^ 62 ∧ -(2 ^ 62) ≤ j ∧ j < 2 ^ 62 then .ok (rngItems i j) S2 else .no
    | _, _ => .no
  | .rng3 a b c => (ev τ S a).bind fun w S1 => (ev τ S1 b).bind fun u S2 => (ev τ S2 c).bind fun v S3 => match w, u, v with
    | .d (.int i), .d (.int j), .d (.int k) => if k ≠ 0 ∧ k.natAbs < 1073741824 ∧ Builtin.Range.small i j k = true ∧ 0 ≤ Builtin.Range.rangeSize i j k then .ok (rngItems3 i j k) S3 else .no
    | _, _, _ => .no
  | .enum e => (ev τ S e).bind fun w S1 => match w with
    | .d x => opt ((dSeq x).map fun xs => enumItems xs 0) S1
    | .ref _ => .no
  | .zip a b => (ev τ S a).bind fun w S1 => (ev τ S1 b).bind fun u S2 => match w, u with
    | .d x, .d y => (match dSeq x, dSeq y with
      | some xs, some ys => .ok (zipItems xs ys) S2
      | _, _ => .no)
    | _, _ => .no
def put (τ : Lo) (S : Sto) (w : W) : Tg → Res Lo
  | .v i => .ok (τ.set i (some w)) S
  | .e => match w with
    | .d (.tuple []) => .ok τ S
    | _ => .no
  | .t l r => match w with
    | .d (.tuple (y :: ys)) => (put τ S (.d y) l).bind fun τ1 S1 => put τ1 S1 (.d (.tuple ys)) r
    | _ => .no
  | .s o i => (ev τ S o).dry.bind fun p S1 => (ev τ S1 i).dry.bind fun q S2 => match putW p q w S2 with
    | some S3 => .ok τ S3
    | none => .no
  | .u i j => match w with
    | .ref n => (match S[n]? with
      | some (.rt [a, b]) => .ok ((τ.set i (some a)).set j (some b)) S
      | _ => .no)
    | _ => .no
  | .us is => match w with
    | .ref n => (match S[n]? with
      | some (.rt ws) => if ws.length = is.length then .ok (setAll τ is ws) S else .no
      | _ => .no)
    | _ => .no
end
mutual
inductive Sm where
  | ex (e : Ex)
  | asg (t : Tg) (e : Ex)
  | par (i j : Nat) (a b : Ex)
  | par3 (i j l : Nat) (a b c : Ex)
  | aug (i : Nat) (g : D → D → Option D) (e : Ex)
  | ret (e : Ex)
  | ifs (t : Te) (a b : Bk)
  | fors (tg : Tg) (it : Ie) (b : Bk)
  | whl (t : Te) (b : Bk)
  | pass
  | brk
  | cnt
inductive Bk where
  | nil
  | cons (s : Sm) (r : Bk)
end
/-- how a statement ends -/
inductive Fl where
  | nx (τ : Lo)
  | ret (w : W)
  | brk (τ : Lo)
  | cnt (τ : Lo)
  | rs (τ : Lo) (e : Ev)
/-- an expression's errors are a statement's ends -/
def Res.up {α : Type} (τ : Lo) (r : Res α) (f : α → Sto → Res Fl) : Res Fl := match r with
  | .ok a S => f a S
  | .exc e S => .ok (.rs τ e) S
  | .no => .no
@[simp] theorem Res.up_ok {α : Type} (τ : Lo) (a : α) (S : Sto) (f : α → Sto → Res Fl) : (Res.ok a S).up τ f = f a S := rfl
@[simp] theorem Res.up_exc {α : Type} (τ : Lo) (e : Ev) (S : Sto) (f : α → Sto → Res Fl) : (Res.exc e S : Res α).up τ f = .ok (.rs τ e) S := rfl
@[simp] theorem Res.up_no {α : Type} (τ : Lo) (f : α → Sto → Res Fl) : (Res.no : Res α).up τ f = .no := rfl
/-- a for's turns -/
def forL (put : Lo → D → Sto → Res Lo) (body : Lo → Sto → Res Fl) : List D → Lo → Sto → Res Fl
  | [], τ, S => .ok (.nx τ) S
  | x :: r, τ, S => (put τ x S).up τ fun τ1 S1 => (body τ1 S1).bind fun f S2 => match f with
    | .nx τ2 => forL put body r τ2 S2
    | .cnt τ2 => forL put body r τ2 S2
    | .brk τ2 => .ok (.nx τ2) S2
    | .ret w => .ok (.ret w) S2
    | .rs τ2 e => .ok (.rs τ2 e) S2
def whlL (t : Lo → Sto → Res Bool) (body : Lo → Sto → Res Fl) : Nat → Lo → Sto → Res Fl
  | 0, _, _ => .no
  | n + 1, τ, S => (t τ S).up τ fun c S1 => if c = true then (body τ S1).bind fun f S2 => match f with
      | .nx τ2 => whlL t body n τ2 S2
      | .cnt τ2 => whlL t body n τ2 S2
      | .brk τ2 => .ok (.nx τ2) S2
      | .ret w => .ok (.ret w) S2
      | .rs τ2 e => .ok (.rs τ2 e) S2
    else .ok (.nx τ) S1
/-- the most turns of a while -/
def whlMost : Nat := 2 ^ 40
mutual
def exe (τ : Lo) (S : Sto) : Sm → Res Fl
  | .ex e => (ev F τ S e).up τ fun _ S1 => .ok (.nx τ) S1
  | .asg t e => (ev F τ S e).up τ fun w S1 => (put F τ S1 w t).up τ fun τ1 S2 => .ok (.nx τ1) S2
  | .par i j a b => (ev F τ S a).up τ fun w S1 => (ev F τ S1 b).up τ fun u S2 => .ok (.nx ((τ.set i (some w)).set j (some u))) S2
  | .par3 i j l a b c => (ev F τ S a).up τ fun w S1 => (ev F τ S1 b).up τ fun u S2 => (ev F τ S2 c).up τ fun v S3 => .ok (.nx (((τ.set i (some w)).set j (some u)).set l (some v))) S3
  | .aug i g e => match τ[i]? with
    | some (some (.d x)) => (ev F τ S e).up τ fun w S1 => match w with
      | .d y => opt ((g x y).map fun z => Fl.nx (τ.set i (some (.d z)))) S1
      | .ref _ => .no
    | _ => .no
  | .ret e => (ev F τ S e).up τ fun w S1 => .ok (.ret w) S1
  | .ifs t a b => (evT F τ S t).up τ fun c S1 => if c = true then exs τ S1 a else exs τ S1 b
  | .fors tg it b => (evI F τ S it).up τ fun xs S1 => forL (fun τ x S => put F τ S (.d x) tg) (fun τ S => exs τ S b) xs τ S1
  | .whl t b => whlL (fun τ S => evT F τ S t) (fun τ S => exs τ S b) whlMost τ S
  | .pass => .ok (.nx τ) S
  | .brk => .ok (.brk τ) S
  | .cnt => .ok (.cnt τ) S
def exs (τ : Lo) (S : Sto) : Bk → Res Fl
  | .nil => .ok (.nx τ) S
  | .cons s r => (exe τ S s).bind fun f S1 => match f with
    | .nx τ1 => exs τ1 S1 r
    | f => .ok f S1
end
end
structure Fn where
  np : Nat
  ns : Nat
  body : Bk
  /-- in a store of its own -/
  iso : Bool := true
  /-- a list that is handed back is a new object (else data) -/
  fresh : Bool := false
  /-- 0; 1: draws from a well; 2: makes a well (FtWp) -/
  kd : Nat := 0
def Ob.shut : Ob → Bool
  | .dl _ => true
  | .dd _ => true
  | .tok => true
  | .mp kvs => allD kvs
  | _ => false
def isoIn : List W → Nat → List W
  | [], _ => []
  | .d x :: r, k => .d x :: isoIn r k
  | .ref _ :: r, k => .ref k :: isoIn r (k + 1)
def refsOf : List W → List Nat
  | [] => []
  | .d _ :: r => refsOf r
  | .ref n :: r => n :: refsOf r
def getShut (S : Sto) : List Nat → Option Sto
  | [] => some []
  | n :: r => match S[n]? with
    | some ob => if ob.shut = true then (match getShut S r with
      | some obs => some (ob :: obs)
      | none => none) else none
    | none => none
def putShut (S : Sto) : List Nat → Sto → Option Sto
  | [], _ => some S
  | n :: r, ob :: obs => if ob.shut = true then putShut (S.set n ob) r obs else none
  | _ :: _, [] => none
def distinct : List Nat → Bool
  | [] => true
  | n :: r => !r.contains n && distinct r
/-- a call in a store of its own -/
def isoCall (fresh : Bool) (run : List W → Sto → Res W) (ws : List W) (S : Sto) : Res W :=
  match distinct (refsOf ws), getShut S (refsOf ws) with
  | true, some obs => (match run (isoIn ws 0) obs with
    | .ok w S1 => (match putShut S (refsOf ws) S1 with
      | some S2 => (match w with
        | .d x => .ok (.d x) S2
        | .ref k => if k < (refsOf ws).length then (match (refsOf ws)[k]? with
            | some n => .ok (.ref n) S2
            | none => .no)
          else match S1[k]? with
            | some (.dl xs) => if fresh = true then .ok (.ref S2.length) (S2 ++ [.dl xs]) else .ok (.d (.list xs)) S2
            | some (.dd xs) => if fresh = true then .ok (.ref S2.length) (S2 ++ [.dd xs]) else .no
            | some (.mp xs) => if fresh = true ∧ allD xs = true then .ok (.ref S2.length) (S2 ++ [.mp xs]) else .no
            | _ => .no)
      | none => .no)
    | .exc e S1 => (match putShut S (refsOf ws) S1 with
      | some S2 => .exc e S2
      | none => .no)
    | .no => .no)
  | _, _ => .no
def begin_ (ns : Nat) (ws : List W) : Lo := ws.map some ++ List.replicate (ns - ws.length) none
def Fn.run (fd : Fn) (F : Fs) (ws : List W) (S : Sto) : Res W := match exs F (begin_ fd.ns ws) S fd.body with
  | .ok (.nx _) S1 => .ok (.d .none) S1
  | .ok (.ret w) S1 => .ok w S1
  | .ok (.rs _ e) S1 => .exc e S1
  | _ => .no
def Fn.call (fd : Fn) (F : Fs) (ws : List W) (S : Sto) : Res W := if ws.length = fd.np then (if fd.iso = true then isoCall fd.fresh (fd.run F) ws S else fd.run F ws S) else .no
abbrev Tbl := Nat → Option Fn
/-- the defs, calls so deep at most -/
def calls (T : Tbl) : Nat → Fs
  | 0, _, _, _ => .no
  | k + 1, f, ws, S => match T f with
    | some fd => fd.call (calls T k) ws S
    | none => .no
end Ft
namespace Ft
open PySem PySem.Spec L2
/-- the world (what a dict's entries keep of it: hashes) -/
class Wd where
  w : World
variable [Wd]
/-- where the store's objects stand, and what else is hidden; which of them change no more -/
structure Ms where
  at_ : List Addr
  ex : List Addr
  fz : List Addr
def Ms.has (φ : Ms) (a : Addr) : Prop := (a ∈ φ.at_ ∧ a ∉ φ.fz) ∨ a ∈ φ.ex
instance (φ : Ms) (a : Addr) : Decidable (φ.has a) := by unfold Ms.has; infer_instance
def Ms.push (φ : Ms) (p : Addr) : Ms := ⟨φ.at_ ++ [p], φ.ex, φ.fz⟩
/-- the heap without them -/
def hid (φ : Ms) (H : Hp) : Hp := fun a => if φ.has a then none else H a
theorem hid_some {φ : Ms} {H : Hp} {a : Addr} {o : HO} (h : hid φ H a = some o) : ¬ φ.has a ∧ H a = some o := by
  unfold hid at h
  split at h
  · cases h
  · exact ⟨by assumption, h⟩
theorem hid_of {φ : Ms} {H : Hp} {a : Addr} {o : HO} (n : ¬ φ.has a) (h : H a = some o) : hid φ H a = some o := by
  unfold hid
  rw [if_neg n]
  exact h
mutual
inductive Dp (K : PySem.W.Frag) (H : Hp) : V → D → Prop
  | non : Dp K H .non .none
  | bl (b : Bool) : Dp K H (.bl b) (.bool b)
  | int (i : Int) : Dp K H (.int i) (.int i)
  | str (x : Str) : Dp K H (.str x) (.str x)
  | lst {a : Addr} {xs : List V} {ds : List D} : SqL K H a xs → DpAll K H xs ds → Dp K H (.ref a) (.list ds)
  | tup {a : Addr} {xs : List V} {ds : List D} : SqT K H a xs → DpAll K H xs ds → Dp K H (.ref a) (.tuple ds)
  | dic {a : Addr} : H a = some (.dK []) → Dp K H (.ref a) (.dict [])
inductive DpAll (K : PySem.W.Frag) (H : Hp) : List V → List D → Prop
  | nil : DpAll K H [] []
  | cons {v : V} {vs : List V} {d : D} {ds : List D} : Dp K H v d → DpAll K H vs ds → DpAll K H (v :: vs) (d :: ds)
end
mutual
theorem Dp.low {K : PySem.W.Frag} {H : Hp} : ∀ {d : D} {v : V}, Dp K H v d → d.hasDict = false → L2.Dp K H v d
  | .none, _, h, _ => by cases h; exact .non
  | .bool _, _, h, _ => by cases h; exact .bl _
  | .int _, _, h, _ => by cases h; exact .int _
  | .str _, _, h, _ => by cases h; exact .str _
  | .list _, _, h, c => by
    cases h with
    | lst h1 h2 => exact .lst h1 (DpAll.low h2 c)
  | .tuple _, _, h, c => by
    cases h with
    | tup h1 h2 => exact .tup h1 (DpAll.low h2 c)
  | .dict _, _, h, c => by cases c
theorem DpAll.low {K : PySem.W.Frag} {H : Hp} : ∀ {ds : List D} {vs : List V}, DpAll K H vs ds → PyData.hasDictAll ds = false → L2.DpAll K H vs ds
  | [], _, h, _ => by cases h; exact .nil
  | _ :: _, _, h, c => by
    cases h with
    | cons h1 h2 =>
      have c : (PyData.hasDict _ || PyData.hasDictAll _) = false := c
      obtain ⟨c1, c2⟩ := Bool.or_eq_false_iff.mp c
      exact .cons (Dp.low h1 c1) (DpAll.low h2 c2)
end
mutual
theorem Dp.up {K : PySem.W.Frag} {H : Hp} : ∀ {d : D} {v : V}, L2.Dp K H v d → Dp K H v d
  | .none, _, h => by cases h; exact .non
  | .bool _, _, h => by cases h; exact .bl _
  | .int _, _, h => by cases h; exact .int _
  | .str _, _, h => by cases h; exact .str _
  | .list _, _, h => by
    cases h with
    | lst h1 h2 => exact .lst h1 (DpAll.up h2)
  | .tuple _, _, h => by
    cases h with
    | tup h1 h2 => exact .tup h1 (DpAll.up h2)
  | .dict _, _, h => by cases h
theorem DpAll.up {K : PySem.W.Frag} {H : Hp} : ∀ {ds : List D} {vs : List V}, L2.DpAll K H vs ds → DpAll K H vs ds
  | [], _, h => by cases h; exact .nil
  | _ :: _, _, h => by
    cases h with
    | cons h1 h2 => exact .cons (Dp.up h1) (DpAll.up h2)
end
mutual
theorem lay_nod : ∀ {d : D}, d.canLay0 = true → d.hasDict = false
  | .none, _ => rfl
  | .bool _, _ => rfl
  | .int _, _ => rfl
  | .str _, _ => rfl
  | .list xs, h => lay_nods (ds := xs) h
  | .tuple xs, h => lay_nods (ds := xs) h
  | .dict _, h => by simp [PyData.canLay0] at h
theorem lay_nods : ∀ {ds : List D}, PyData.canLayAll0 ds = true → PyData.hasDictAll ds = false
  | [], _ => rfl
  | x :: r, h => by
    have h : (x.canLay0 && PyData.canLayAll0 r) = true := h
    obtain ⟨c1, c2⟩ := Bool.and_eq_true_iff.mp h
    show (x.hasDict || PyData.hasDictAll r) = false
    rw [lay_nod c1, lay_nods c2]
    rfl
end
theorem shaped_lay {d : D} (h : SeqAt.shaped d = true) : d.hasDict = false := by
  unfold SeqAt.shaped at h
  exact lay_nod (Bool.and_eq_true_iff.mp h).1
/-- data at a value -/
abbrev DR (K : PySem.W.Frag) (φ : Ms) (H : Hp) (v : V) (x : D) : Prop := Dp K (hid φ H) v x
abbrev DRs (K : PySem.W.Frag) (φ : Ms) (H : Hp) (vs : List V) (xs : List D) : Prop := DpAll K (hid φ H) vs xs
theorem seqL_mono {K : PySem.W.Frag} {H H' : Hp} {a : Addr} {xs : List V} (e : Same H H') (h : SqL K H a xs) : SqL K H' a xs := e.seq h
theorem seqT_mono {K : PySem.W.Frag} {H H' : Hp} {a : Addr} {xs : List V} (e : Same H H') (h : SqT K H a xs) : SqT K H' a xs := by
  rcases h with (h | ⟨o, h⟩) | h
  · exact .inl (.inl (e _ _ h))
  · exact .inl (.inr ⟨o, e _ _ h⟩)
  · exact .inr h
mutual
theorem dp_mono {K : PySem.W.Frag} {H H' : Hp} (e : Same H H') : ∀ {d : D} {v : V}, Dp K H v d → Dp K H' v d
  | .none, _, h => by cases h; exact .non
  | .bool _, _, h => by cases h; exact .bl _
  | .int _, _, h => by cases h; exact .int _
  | .str _, _, h => by cases h; exact .str _
  | .list _, _, h => by
    cases h with
    | lst h1 h2 => exact .lst (seqL_mono e h1) (dps_mono e h2)
  | .tuple _, _, h => by
    cases h with
    | tup h1 h2 => exact .tup (seqT_mono e h1) (dps_mono e h2)
  | .dict _, _, h => by
    cases h with
    | dic h1 => exact .dic (e _ _ h1)
theorem dps_mono {K : PySem.W.Frag} {H H' : Hp} (e : Same H H') : ∀ {ds : List D} {vs : List V}, DpAll K H vs ds → DpAll K H' vs ds
  | [], _, h => by cases h; exact .nil
  | _ :: _, _, h => by
    cases h with
    | cons h1 h2 => exact .cons (dp_mono e h1) (dps_mono e h2)
end
theorem dps_len {K : PySem.W.Frag} {H : Hp} : ∀ {ds : List D} {vs : List V}, DpAll K H vs ds → vs.length = ds.length
  | [], _, h => by cases h; rfl
  | _ :: _, _, h => by
    cases h with
    | cons h1 h2 => simp [dps_len h2]
theorem dps_app {K : PySem.W.Frag} {H : Hp} : ∀ {ds es : List D} {vs us : List V}, DpAll K H vs ds → DpAll K H us es → DpAll K H (vs ++ us) (ds ++ es)
  | [], _, _, _, h, g => by cases h; exact g
  | _ :: _, _, _, _, h, g => by
    cases h with
    | cons h1 h2 => exact .cons h1 (dps_app h2 g)
theorem dps_get {K : PySem.W.Frag} {H : Hp} : ∀ {ds : List D} {vs : List V} {i : Nat} {d : D}, DpAll K H vs ds → ds[i]? = some d → ∃ v, vs[i]? = some v ∧ Dp K H v d
  | _ :: _, _, 0, _, h, e => by
    cases h with
    | cons h1 h2 =>
      simp at e
      subst e
      exact ⟨_, rfl, h1⟩
  | _ :: _, _, i + 1, d, h, e => by
    cases h with
    | cons h1 h2 =>
      obtain ⟨v, a, b⟩ := dps_get (i := i) (d := d) h2 (by simpa using e)
      exact ⟨v, by simpa using a, b⟩
  | [], _, _, _, _, e => by simp at e
theorem dps_at {K : PySem.W.Frag} {H : Hp} {ds : List D} {vs : List V} {i : Int} {d : D} (h : DpAll K H vs ds) (e : atI ds i = some d) : ∃ v, atI vs i = some v ∧ Dp K H v d := by
  unfold atI at e ⊢
  rw [← dps_len h] at e
  cases q : ixN vs.length i with
  | none => rw [q] at e; cases e
  | some j =>
    rw [q] at e
    exact dps_get h (show ds[j]? = some d from e)
theorem dps_drop {K : PySem.W.Frag} {H : Hp} : ∀ {ds : List D} {vs : List V} (n : Nat), DpAll K H vs ds → DpAll K H (vs.drop n) (ds.drop n)
  | _, _, 0, h => h
  | [], _, _ + 1, h => by cases h; exact .nil
  | _ :: _, _, n + 1, h => by
    cases h with
    | cons h1 h2 => exact dps_drop n h2
theorem dps_take {K : PySem.W.Frag} {H : Hp} : ∀ {ds : List D} {vs : List V} (n : Nat), DpAll K H vs ds → DpAll K H (vs.take n) (ds.take n)
  | _, _, 0, h => .nil
  | [], _, _ + 1, h => by cases h; exact .nil
  | _ :: _, _, n + 1, h => by
    cases h with
    | cons h1 h2 => exact .cons h1 (dps_take n h2)
theorem dps_set {K : PySem.W.Frag} {H : Hp} {v : V} {d : D} (r : Dp K H v d) : ∀ {ds : List D} {vs : List V} (n : Nat), DpAll K H vs ds → DpAll K H (vs.set n v) (ds.set n d)
  | [], _, _, h => by cases h; exact .nil
  | _ :: _, _, 0, h => by
    cases h with
    | cons h1 h2 => exact .cons r h2
  | _ :: _, _, n + 1, h => by
    cases h with
    | cons h1 h2 => exact .cons h1 (dps_set r n h2)
/-- a value of the language at a value -/
def WR (K : PySem.W.Frag) (φ : Ms) (H : Hp) (w : W) (v : V) : Prop := match w with
  | .d x => DR K φ H v x
  | .ref n => ∃ a, φ.at_[n]? = some a ∧ v = .ref a
inductive WRs (K : PySem.W.Frag) (φ : Ms) (H : Hp) : List W → List V → Prop
  | nil : WRs K φ H [] []
  | cons {w : W} {v : V} {ws : List W} {vs : List V} : WR K φ H w v → WRs K φ H ws vs → WRs K φ H (w :: ws) (v :: vs)
/-- pairs of a dict -/
inductive KR (K : PySem.W.Frag) (H : Hp) : List (L2.Key × V) → List (L2.Key × D) → Prop
  | nil : KR K H [] []
  | cons {k : L2.Key} {v : V} {d : D} {r : List (L2.Key × V)} {s : List (L2.Key × D)} : Dp K H v d → KR K H r s → KR K H ((k, v) :: r) ((k, d) :: s)
theorem KR.mono {K : PySem.W.Frag} {H H' : Hp} (e : Same H H') {ks : List (L2.Key × V)} {kvs : List (L2.Key × D)} (h : KR K H ks kvs) : KR K H' ks kvs := by
  induction h with
  | nil => exact .nil
  | cons h1 _ ih => exact .cons (dp_mono e h1) ih
theorem KR.any {K : PySem.W.Frag} {H : Hp} {ks : List (L2.Key × V)} {kvs : List (L2.Key × D)} (h : KR K H ks kvs) (k : L2.Key) : (ks.any fun kv => decide (kv.1 = k)) = kvs.any fun kv => decide (kv.1 = k) := by
  induction h with
  | nil => rfl
  | cons _ _ ih => rw [List.any_cons, List.any_cons, ih]
theorem KR.len {K : PySem.W.Frag} {H : Hp} {ks : List (L2.Key × V)} {kvs : List (L2.Key × D)} (h : KR K H ks kvs) : ks.length = kvs.length := by
  induction h with
  | nil => rfl
  | cons _ _ ih => rw [List.length_cons, List.length_cons, ih]
theorem KR.snoc {K : PySem.W.Frag} {H : Hp} {ks : List (L2.Key × V)} {kvs : List (L2.Key × D)} (h : KR K H ks kvs) {k : L2.Key} {v : V} {d : D} (r : Dp K H v d) : KR K H (ks ++ [(k, v)]) (kvs ++ [(k, d)]) := by
  induction h with
  | nil => exact .cons r .nil
  | cons h1 _ ih => exact .cons h1 ih
theorem KR.put {K : PySem.W.Frag} {H : Hp} {ks : List (L2.Key × V)} {kvs : List (L2.Key × D)} (h : KR K H ks kvs) {k : L2.Key} {v : V} {d : D} (r : Dp K H v d) : KR K H (L2.putK ks k v) (putD kvs k d) := by
  unfold L2.putK putD
  rw [h.any k]
  split
  · rename_i hz
    clear hz
    induction h with
    | nil => exact .nil
    | cons h1 _ ih =>
      rename_i k' v' d' _ _ _
      rw [List.map_cons, List.map_cons]
      by_cases e : k' = k
      · rw [if_pos e, if_pos e]
        exact .cons r ih
      · rw [if_neg e, if_neg e]
        exact .cons h1 ih
  · exact h.snoc r
/-- a key of texts and numbers -/
def kN : L2.Key → NestedKey
  | .inl i => .num i
  | .inr x => .text x
theorem kN_inj {a b : L2.Key} (e : kN a = kN b) : a = b := by
  cases a <;> cases b <;> cases e <;> rfl
/-- pairs of a dict, its values anything -/
inductive KRW (K : PySem.W.Frag) (φ : Ms) (H : Hp) : List (L2.Key × V) → List (NestedKey × W) → Prop
  | nil : KRW K φ H [] []
  | cons {k : L2.Key} {v : V} {w : W} {r : List (L2.Key × V)} {s : List (NestedKey × W)} : WR K φ H w v → KRW K φ H r s → KRW K φ H ((k, v) :: r) ((kN k, w) :: s)
/-- .. its keys tuples -/
inductive KRN (K : PySem.W.Frag) (φ : Ms) (H : Hp) : List (NestedKey × Addr × Value) → List (NestedKey × W) → Prop
  | nil : KRN K φ H [] []
  | cons {k : NestedKey} {b : Addr} {u : Value} {v : V} {w : W} {r : List (NestedKey × Addr × Value)} {s : List (NestedKey × W)} : Dp K (hid φ H) (.ref b) k.data → isTup k = true → k.depth ≤ 8 → RelV v u → WR K φ H w v → KRN K φ H r s → KRN K φ H ((k, b, u) :: r) ((k, w) :: s)
def entN (w : World) (x : NestedKey × Addr × Value) : DictEntry := ⟨x.1.hash w, .ref x.2.1, x.2.2⟩
/-- a dict whose keys are tuples, as a thing of the heap -/
def NK (a : Addr) (xs : List (NestedKey × Addr × Value)) : HO := .ext fun h => ∃ o es ep, h.get? a = some o ∧ o.ExactDict ∧ o.data = .dict es ep ∧ es.toList = xs.map (entN Wd.w) ∧ (xs.map (·.1)).Nodup
theorem KRW.mono {K : PySem.W.Frag} {φ φ' : Ms} {H H' : Hp} (g : ∀ w v, WR K φ H w v → WR K φ' H' w v) {ks : List (L2.Key × V)} {kvs : List (NestedKey × W)} (h : KRW K φ H ks kvs) : KRW K φ' H' ks kvs := by
  induction h with
  | nil => exact .nil
  | cons h1 _ ih => exact .cons (g _ _ h1) ih
theorem KRN.mono {K : PySem.W.Frag} {φ φ' : Ms} {H H' : Hp} (g : ∀ w v, WR K φ H w v → WR K φ' H' w v) (e : Same (hid φ H) (hid φ' H')) {ks : List (NestedKey × Addr × Value)} {kvs : List (NestedKey × W)} (h : KRN K φ H ks kvs) : KRN K φ' H' ks kvs := by
  induction h with
  | nil => exact .nil
  | cons h1 h2 h3 h4 h5 _ ih => exact .cons (dp_mono e h1) h2 h3 h4 (g _ _ h5) ih
theorem WRs.monog {K : PySem.W.Frag} {φ φ' : Ms} {H H' : Hp} (g : ∀ w v, WR K φ H w v → WR K φ' H' w v) {ws : List W} {vs : List V} (h : WRs K φ H ws vs) : WRs K φ' H' ws vs := by
  induction h with
  | nil => exact .nil
  | cons h1 _ ih => exact .cons (g _ _ h1) ih
theorem WR.monog {K : PySem.W.Frag} {φ φ' : Ms} {H H' : Hp} (e : Same (hid φ H) (hid φ' H')) (ha : ∀ (n : Nat) (a : Addr), φ.at_[n]? = some a → φ'.at_[n]? = some a) (w : W) (v : V) (h : WR K φ H w v) : WR K φ' H' w v := by
  cases w with
  | d x => exact dp_mono e (show Dp K (hid φ H) v x from h)
  | ref m =>
    obtain ⟨a, e, r⟩ := h
    exact ⟨a, ha _ _ e, r⟩
/-- data alone -/
theorem WR.monod {K : PySem.W.Frag} {φ φ' : Ms} {H H' : Hp} (e : Same (hid φ H) (hid φ' H')) {w : W} (hd : w.isD = true) {v : V} (h : WR K φ H w v) : WR K φ' H' w v := by
  cases w with
  | d x => exact dp_mono e (show Dp K (hid φ H) v x from h)
  | ref m => cases hd
theorem KRW.monod {K : PySem.W.Frag} {φ φ' : Ms} {H H' : Hp} (e : Same (hid φ H) (hid φ' H')) {ks : List (L2.Key × V)} {kvs : List (NestedKey × W)} (h : KRW K φ H ks kvs) (hd : allD kvs = true) : KRW K φ' H' ks kvs := by
  induction h with
  | nil => exact .nil
  | cons h1 _ ih =>
    have hd := Bool.and_eq_true_iff.mp (show (_ && allD _) = true from hd)
    exact .cons (h1.monod e hd.1) (ih hd.2)
theorem KRN.monod {K : PySem.W.Frag} {φ φ' : Ms} {H H' : Hp} (e : Same (hid φ H) (hid φ' H')) {ks : List (NestedKey × Addr × Value)} {kvs : List (NestedKey × W)} (h : KRN K φ H ks kvs) (hd : allD kvs = true) : KRN K φ' H' ks kvs := by
  induction h with
  | nil => exact .nil
  | cons h1 h2 h3 h4 h5 _ ih =>
    have hd := Bool.and_eq_true_iff.mp (show (_ && allD _) = true from hd)
    exact .cons (dp_mono e h1) h2 h3 h4 (h5.monod e hd.1) (ih hd.2)
/-- a dict -/
def MpR (K : PySem.W.Frag) (φ : Ms) (H : Hp) (a : Addr) (kvs : List (NestedKey × W)) : Prop :=
  (∃ ks, H a = some (.dK ks) ∧ KRW K φ H ks kvs) ∨ ((a == sysModules) = false ∧ kvs.length ≤ sizeLine ∧ ∃ xs, H a = some (NK a xs) ∧ KRN K φ H xs kvs)
theorem MpR.mono {K : PySem.W.Frag} {φ φ' : Ms} {H H' : Hp} {a : Addr} {kvs : List (NestedKey × W)} (g : ∀ w v, WR K φ H w v → WR K φ' H' w v) (e : Same (hid φ H) (hid φ' H')) (hk : ∀ o, H a = some o → H' a = some o) (h : MpR K φ H a kvs) : MpR K φ' H' a kvs := by
  rcases h with ⟨ks, h1, h2⟩ | ⟨h0, hl, xs, h1, h2⟩
  · exact .inl ⟨ks, hk _ h1, h2.mono g⟩
  · exact .inr ⟨h0, hl, xs, hk _ h1, h2.mono g e⟩
theorem MpR.monod {K : PySem.W.Frag} {φ φ' : Ms} {H H' : Hp} {a : Addr} {kvs : List (NestedKey × W)} (e : Same (hid φ H) (hid φ' H')) (hk : ∀ o, H a = some o → H' a = some o) (h : MpR K φ H a kvs) (hd : allD kvs = true) : MpR K φ' H' a kvs := by
  rcases h with ⟨ks, h1, h2⟩ | ⟨h0, hl, xs, h1, h2⟩
  · exact .inl ⟨ks, hk _ h1, h2.monod e hd⟩
  · exact .inr ⟨h0, hl, xs, hk _ h1, h2.monod e hd⟩
theorem MpR.there {K : PySem.W.Frag} {φ : Ms} {H : Hp} {a : Addr} {kvs : List (NestedKey × W)} (h : MpR K φ H a kvs) : H a ≠ none := by
  rcases h with ⟨ks, h1, h2⟩ | ⟨_, _, xs, h1, h2⟩ <;> rw [h1] <;> exact fun z => by cases z
def OR' (K : PySem.W.Frag) (φ : Ms) (H : Hp) (a : Addr) : Ob → Prop
  | .mp kvs => a ∉ φ.fz ∧ MpR K φ H a kvs
  | .rl ws => a ∉ φ.fz ∧ ∃ vs, H a = some (.lst vs) ∧ WRs K φ H ws vs
  | .rt ws => a ∉ φ.fz ∧ ∃ vs, H a = some (.tup vs) ∧ WRs K φ H ws vs
  | .dd kvs => a ∉ φ.fz ∧ ∃ ks, H a = some (.dK ks) ∧ KR K (hid φ H) ks kvs
  | .dl xs => a ∉ φ.fz ∧ ∃ vs, H a = some (.lst vs) ∧ DRs K φ H vs xs
  | .fz xs => a ∈ φ.fz ∧ ∃ vs, H a = some (.lst vs) ∧ DRs K φ H vs xs
  | _ => False
/-- the store -/
structure SR (K : PySem.W.Frag) (φ : Ms) (H : Hp) (S : Sto) : Prop where
  nd : φ.at_.Nodup
  len : φ.at_.length = S.length
  at_ : ∀ (n : Nat) (ob : Ob) (a : Addr), S[n]? = some ob → φ.at_[n]? = some a → OR' K φ H a ob
  ap : ∀ a ∈ φ.ex, a ∉ φ.at_
  ext : ∀ a ∈ φ.ex, H a ≠ none
  fzt : ∀ a ∈ φ.fz, H a ≠ none
/-- a def's names -/
structure LR (K : PySem.W.Frag) (φ : Ms) (H : Hp) (τ : Lo) (σ : St) : Prop where
  len : τ.length = σ.length
  at_ : ∀ (i : Nat) (w : W), τ[i]? = some (some w) → ∃ v, σ[i]? = some (some v) ∧ WR K φ H w v
/-- from one state to a later one -/
structure Nx (φ : Ms) (H : Hp) (φ' : Ms) (H' : Hp) : Prop where
  pre : ∃ l, φ'.at_ = φ.at_ ++ l ∧ ∀ a ∈ l, H a = none
  ex : φ'.ex = φ.ex
  fz : ∀ a ∈ φ.fz, a ∈ φ'.fz
  keep : ∀ a o, H a = some o → ¬ (a ∈ φ.at_ ∧ a ∉ φ.fz) → H' a = some o
  stay : ∀ a, H a ≠ none → H' a ≠ none
theorem Nx.refl {φ : Ms} {H : Hp} : Nx φ H φ H := ⟨⟨[], by simp, by simp⟩, rfl, fun _ h => h, fun _ _ h _ => h, fun _ h => h⟩
theorem Nx.same {φ φ' : Ms} {H H' : Hp} (n : Nx φ H φ' H') : Same (hid φ H) (hid φ' H') := fun a o h => by
  obtain ⟨h1, h2⟩ := hid_some h
  obtain ⟨l, e, q⟩ := n.pre
  refine hid_of (fun m => ?_) (n.keep a o h2 fun m => h1 (.inl m))
  rcases m with ⟨m, nf⟩ | m
  · rw [e] at m
    rcases List.mem_append.mp m with m | m
    · exact h1 (.inl ⟨m, fun z => nf (n.fz a z)⟩)
    · rw [q a m] at h2; cases h2
  · rw [n.ex] at m
    exact h1 (.inr m)
/-- every object of the store is there -/
theorem OR'.there {K : PySem.W.Frag} {φ : Ms} {H : Hp} {a : Addr} {ob : Ob} (h : OR' K φ H a ob) : H a ≠ none := by
  cases ob with
  | dl xs =>
    obtain ⟨_, vs, e, _⟩ := h
    rw [e]
    exact fun z => by cases z
  | fz xs =>
    obtain ⟨_, vs, e, _⟩ := h
    rw [e]
    exact fun z => by cases z
  | dd xs =>
    obtain ⟨_, vs, e, _⟩ := h
    rw [e]
    exact fun z => by cases z
  | rl xs =>
    obtain ⟨_, vs, e, _⟩ := h
    rw [e]
    exact fun z => by cases z
  | rt xs =>
    obtain ⟨_, vs, e, _⟩ := h
    rw [e]
    exact fun z => by cases z
  | mp xs => exact h.2.there
  | _ => exact h.elim
theorem SR.there0 {K : PySem.W.Frag} {φ : Ms} {H : Hp} {S : Sto} (h : SR K φ H S) : ∀ a ∈ φ.at_, H a ≠ none := fun a ha => by
  obtain ⟨n, hn, e⟩ := List.mem_iff_getElem.mp ha
  have hs : n < S.length := by rw [← h.len]; exact hn
  exact (h.at_ n S[n] a (List.getElem?_eq_getElem hs) (by rw [List.getElem?_eq_getElem hn, e])).there
theorem SR.there {K : PySem.W.Frag} {φ : Ms} {H : Hp} {S : Sto} (h : SR K φ H S) : ∀ a, φ.has a → H a ≠ none := fun a ha => by
  rcases ha with ⟨ha, _⟩ | ha
  rotate_left
  · exact h.ext a ha
  exact h.there0 a ha
theorem Nx.trans {φ φ1 φ2 : Ms} {H H1 H2 : Hp} (a : Nx φ H φ1 H1) (b : Nx φ1 H1 φ2 H2) : Nx φ H φ2 H2 := by
  obtain ⟨l, e, q⟩ := a.pre
  obtain ⟨l', e', q'⟩ := b.pre
  have out : ∀ c o, H c = some o → ¬ (c ∈ φ.at_ ∧ c ∉ φ.fz) → ¬ (c ∈ φ1.at_ ∧ c ∉ φ1.fz) := fun c o h n ⟨m, nf⟩ => by
    rw [e] at m
    rcases List.mem_append.mp m with m | m
    · exact n ⟨m, fun z => nf (a.fz c z)⟩
    · rw [q c m] at h; cases h
  refine ⟨⟨l ++ l', by rw [e', e, List.append_assoc], fun c m => ?_⟩, b.ex.trans a.ex, fun c z => b.fz c (a.fz c z), fun c o h n => b.keep c o (a.keep c o h n) (out c o h n), fun c h => b.stay c (a.stay c h)⟩
  rcases List.mem_append.mp m with m | m
  · exact q c m
  · have z := q' c m
    cases r : H c with
    | none => rfl
    | some o => exact absurd z (a.stay c (by rw [r]; exact fun y => by cases y))
theorem WR.mono {K : PySem.W.Frag} {φ φ' : Ms} {H H' : Hp} (n : Nx φ H φ' H') {w : W} {v : V} (h : WR K φ H w v) : WR K φ' H' w v := by
  cases w with
  | d x => exact dp_mono n.same (show Dp K (hid φ H) v x from h)
  | ref m =>
    obtain ⟨a, e, r⟩ := h
    obtain ⟨l, e', _⟩ := n.pre
    refine ⟨a, ?_, r⟩
    rw [e', List.getElem?_append_left (List.getElem?_eq_some_iff.mp e).1]
    exact e
theorem WRs.mono {K : PySem.W.Frag} {φ φ' : Ms} {H H' : Hp} (n : Nx φ H φ' H') {ws : List W} {vs : List V} (h : WRs K φ H ws vs) : WRs K φ' H' ws vs := by
  induction h with
  | nil => exact .nil
  | cons h1 _ ih => exact .cons (h1.mono n) ih
theorem WRs.len {K : PySem.W.Frag} {φ : Ms} {H : Hp} {ws : List W} {vs : List V} (h : WRs K φ H ws vs) : ws.length = vs.length := by
  induction h with
  | nil => rfl
  | cons _ _ ih => simp [ih]
theorem WRs.datas {K : PySem.W.Frag} {φ : Ms} {H : Hp} {ws : List W} {vs : List V} (h : WRs K φ H ws vs) : ∀ {xs : List D}, datas ws = some xs → DRs K φ H vs xs := by
  induction h with
  | nil =>
    intro xs e
    cases e
    exact .nil
  | @cons w v ws vs h1 _ ih =>
    intro xs e
    cases w with
    | ref n => cases e
    | d x =>
      unfold Ft.datas at e
      cases q : Ft.datas ws with
      | none => rw [q] at e; cases e
      | some ys =>
        rw [q] at e
        cases e
        exact .cons h1 (ih q)
theorem LR.mono {K : PySem.W.Frag} {φ φ' : Ms} {H H' : Hp} (n : Nx φ H φ' H') {τ : Lo} {σ : St} (h : LR K φ H τ σ) : LR K φ' H' τ σ :=
  ⟨h.len, fun i w e => let ⟨v, e', r⟩ := h.at_ i w e; ⟨v, e', r.mono n⟩⟩
theorem LR.set {K : PySem.W.Frag} {φ : Ms} {H : Hp} {τ : Lo} {σ : St} (h : LR K φ H τ σ) {i : Nat} {w : W} {v : V} (r : WR K φ H w v) : LR K φ H (τ.set i (some w)) (σ.set i (some v)) := by
  refine ⟨by simp [h.len], fun j u e => ?_⟩
  by_cases hj : i = j
  · subst hj
    rw [List.getElem?_set] at e
    simp only [if_true] at e
    split at e
    · cases e
      refine ⟨v, ?_, r⟩
      rw [List.getElem?_set]
      simp only [if_true]
      rw [if_pos (by rw [← h.len]; assumption)]
    · cases e
  · rw [List.getElem?_set_ne hj] at e ⊢
    exact h.at_ j u e
theorem LR.wip {K : PySem.W.Frag} {φ : Ms} {H : Hp} {τ : Lo} {σ : St} (h : LR K φ H τ σ) : ∀ vs : List Nat, LR K φ H (wip τ vs) (wipe σ vs)
  | [] => h
  | i :: vs => by
    have ih := LR.wip h vs
    refine ⟨by simp [Ft.wip, L2.wipe, ih.len], fun j u e => ?_⟩
    unfold Ft.wip at e
    unfold L2.wipe
    by_cases hj : i = j
    · subst hj
      rw [List.getElem?_set] at e
      simp only [if_true] at e
      split at e <;> cases e
    · rw [List.getElem?_set_ne hj] at e ⊢
      exact ih.at_ j u e
theorem OR'.mono {K : PySem.W.Frag} {φ : Ms} {H H' : Hp} {a : Addr} {ob : Ob} (h : OR' K φ H a ob) (hk : ∀ o, H a = some o → H' a = some o) (sm : Same (hid φ H) (hid φ H')) : OR' K φ H' a ob := by
  cases ob with
  | dl xs =>
    obtain ⟨nf, vs, e3, r⟩ := h
    exact ⟨nf, vs, hk _ e3, dps_mono sm r⟩
  | fz xs =>
    obtain ⟨nf, vs, e3, r⟩ := h
    exact ⟨nf, vs, hk _ e3, dps_mono sm r⟩
  | dd xs =>
    obtain ⟨nf, vs, e3, r⟩ := h
    exact ⟨nf, vs, hk _ e3, r.mono sm⟩
  | rl xs =>
    obtain ⟨nf, vs, e3, r⟩ := h
    exact ⟨nf, vs, hk _ e3, r.monog (WR.monog sm fun _ _ z => z)⟩
  | rt xs =>
    obtain ⟨nf, vs, e3, r⟩ := h
    exact ⟨nf, vs, hk _ e3, r.monog (WR.monog sm fun _ _ z => z)⟩
  | mp xs => exact ⟨h.1, h.2.mono (WR.monog sm fun _ _ z => z) sm hk⟩
  | _ => exact h.elim
theorem OR'.to {K : PySem.W.Frag} {φ φ' : Ms} {H H' : Hp} {a : Addr} {ob : Ob} (h : OR' K φ H a ob) (hf : φ'.fz = φ.fz) (ha : ∀ (n : Nat) (a : Addr), φ.at_[n]? = some a → φ'.at_[n]? = some a) (hk : ∀ o, H a = some o → H' a = some o) (sm : Same (hid φ H) (hid φ' H')) : OR' K φ' H' a ob := by
  cases ob with
  | dl xs =>
    obtain ⟨nf, vs, e3, r⟩ := h
    exact ⟨by rw [hf]; exact nf, vs, hk _ e3, dps_mono sm r⟩
  | fz xs =>
    obtain ⟨nf, vs, e3, r⟩ := h
    exact ⟨by rw [hf]; exact nf, vs, hk _ e3, dps_mono sm r⟩
  | dd xs =>
    obtain ⟨nf, vs, e3, r⟩ := h
    exact ⟨by rw [hf]; exact nf, vs, hk _ e3, r.mono sm⟩
  | rl xs =>
    obtain ⟨nf, vs, e3, r⟩ := h
    exact ⟨by rw [hf]; exact nf, vs, hk _ e3, r.monog (WR.monog sm ha)⟩
  | rt xs =>
    obtain ⟨nf, vs, e3, r⟩ := h
    exact ⟨by rw [hf]; exact nf, vs, hk _ e3, r.monog (WR.monog sm ha)⟩
  | mp xs => exact ⟨by rw [hf]; exact h.1, h.2.mono (WR.monog sm ha) sm hk⟩
  | _ => exact h.elim
/-- an object of the store, put anew -/
theorem SR.put {K : PySem.W.Frag} {φ : Ms} {H : Hp} {S : Sto} (h : SR K φ H S) {n : Nat} {a : Addr} (ha : φ.at_[n]? = some a) (hf : a ∉ φ.fz) {o : HO} {ob : Ob} (ho : OR' K φ (upd H a o) a ob) : SR K φ (upd H a o) (S.set n ob) ∧ Nx φ H φ (upd H a o) := by
  have hm : a ∈ φ.at_ := List.mem_of_getElem? ha
  have sm : Same (hid φ H) (hid φ (upd H a o)) := fun b u e => by
    obtain ⟨h1, h2⟩ := hid_some e
    refine hid_of h1 ?_
    rw [upd_ne (fun z => h1 (by rw [z]; exact .inl ⟨hm, hf⟩))]
    exact h2
  have st : ∀ b, H b ≠ none → upd H a o b ≠ none := fun b e => by
    by_cases hb : b = a
    · subst hb
      rw [upd_same]
      exact fun z => by cases z
    · rw [upd_ne hb]
      exact e
  refine ⟨⟨h.nd, by simp [h.len], fun m u b e1 e2 => ?_, h.ap, fun b m => st b (h.ext b m), fun b m => st b (h.fzt b m)⟩, ⟨⟨[], by simp, by simp⟩, rfl, fun _ z => z, fun b u e nb => ?_, st⟩⟩
  · by_cases hmn : n = m
    · subst hmn
      have : b = a := by rw [ha] at e2; cases e2; rfl
      subst this
      rw [List.getElem?_set] at e1
      simp only [if_true] at e1
      split at e1
      · cases e1; exact ho
      · cases e1
    · rw [List.getElem?_set_ne hmn] at e1
      have hb : b ≠ a := fun z => by
        subst z
        obtain ⟨i1, q1⟩ := List.getElem?_eq_some_iff.mp e2
        obtain ⟨i2, q2⟩ := List.getElem?_eq_some_iff.mp ha
        exact hmn ((List.getElem_inj h.nd).mp (q2.trans q1.symm))
      exact (h.at_ m u b e1 e2).mono (fun o z => by rw [upd_ne hb]; exact z) sm
  · rw [upd_ne (fun z => nb (by rw [z]; exact ⟨hm, hf⟩))]
    exact e
/-- a new thing beside the store -/
theorem SR.keep {K : PySem.W.Frag} {φ : Ms} {H H' : Hp} {S : Sto} (h : SR K φ H S) (e : Same H H') : SR K φ H' S ∧ Nx φ H φ H' := by
  have n : Nx φ H φ H' := ⟨⟨[], by simp, by simp⟩, rfl, fun _ z => z, fun b u q _ => e b u q, fun b q z => by
    cases r : H b with
    | none => exact q r
    | some o => rw [e b o r] at z; cases z⟩
  exact ⟨⟨h.nd, h.len, fun m u b e1 e2 => (h.at_ m u b e1 e2).mono (fun o z => e b o z) n.same, h.ap, fun b m => n.stay b (h.ext b m), fun b m => n.stay b (h.fzt b m)⟩, n⟩
theorem same_new {H : Hp} {p : Addr} {o : HO} (h : H p = none) : Same H (upd H p o) := fun b u e => by
  rw [upd_ne (ne_of_none e h)]
  exact e
/-- a new object into the store -/
theorem SR.push {K : PySem.W.Frag} {φ : Ms} {H : Hp} {S : Sto} (h : SR K φ H S) {p : Addr} (hp : H p = none) {o : HO} {ob : Ob} (ho : OR' K (φ.push p) (upd H p o) p ob) : SR K (φ.push p) (upd H p o) (S ++ [ob]) ∧ Nx φ H (φ.push p) (upd H p o) := by
  have np : p ∉ φ.at_ := fun m => h.there0 p m hp
  have n : Nx φ H (φ.push p) (upd H p o) := ⟨⟨[p], rfl, fun a m => by simp at m; subst m; exact hp⟩, rfl, fun _ z => z, fun b u e _ => same_new hp b u e, fun b e z => by
    by_cases hb : b = p
    · subst hb; exact e hp
    · rw [upd_ne hb] at z; exact e z⟩
  refine ⟨⟨?_, by simp [Ms.push, h.len], fun m u b e1 e2 => ?_, fun b m z => ?_, fun b m => n.stay b (h.ext b m), fun b m => n.stay b (h.fzt b m)⟩, n⟩
  · show (φ.at_ ++ [p]).Nodup
    rw [List.nodup_append]
    exact ⟨h.nd, by simp, fun a ma b mb => by simp at mb; subst mb; exact fun z => np (z ▸ ma)⟩
  · have e2 : (φ.at_ ++ [p])[m]? = some b := e2
    by_cases hm : m < S.length
    · rw [List.getElem?_append_left hm] at e1
      rw [List.getElem?_append_left (by rw [h.len]; exact hm)] at e2
      have z := h.at_ m u b e1 e2
      cases u with
      | dl xs =>
        obtain ⟨nf, vs, e3, r⟩ := z
        exact ⟨nf, vs, same_new hp _ _ e3, dps_mono n.same r⟩
      | fz xs =>
        obtain ⟨nf, vs, e3, r⟩ := z
        exact ⟨nf, vs, same_new hp _ _ e3, dps_mono n.same r⟩
      | dd xs =>
        obtain ⟨nf, vs, e3, r⟩ := z
        exact ⟨nf, vs, same_new hp _ _ e3, r.mono n.same⟩
      | rl xs =>
        obtain ⟨nf, vs, e3, r⟩ := z
        exact ⟨nf, vs, same_new hp _ _ e3, r.mono n⟩
      | rt xs =>
        obtain ⟨nf, vs, e3, r⟩ := z
        exact ⟨nf, vs, same_new hp _ _ e3, r.mono n⟩
      | mp xs => exact ⟨z.1, z.2.mono (fun _ _ r => r.mono n) n.same (fun _ e => same_new hp _ _ e)⟩
      | _ => exact z.elim
    · rw [List.getElem?_append_right (by omega)] at e1
      rw [List.getElem?_append_right (by rw [h.len]; omega)] at e2
      have : m - S.length = 0 := by
        rcases q : m - S.length with _ | k
        · rfl
        · rw [q] at e1; simp at e1
      rw [h.len] at e2
      rw [this] at e1 e2
      simp at e1 e2
      subst e1 e2
      exact ho
  · have z : b ∈ φ.at_ ++ [p] := z
    rcases List.mem_append.mp z with z | z
    · exact h.ap b m z
    · simp at z
      subst z
      exact h.ext _ m hp
/-- one that changes no more -/
def Ms.freeze (φ : Ms) (p : Addr) : Ms := ⟨φ.at_, φ.ex, p :: φ.fz⟩
theorem SR.freeze {K : PySem.W.Frag} {φ : Ms} {H : Hp} {S : Sto} (h : SR K φ H S) {n : Nat} {a : Addr} (ha : φ.at_[n]? = some a) {xs : List D} (hs : S[n]? = some (.dl xs)) : SR K (φ.freeze a) H (S.set n (.fz xs)) ∧ Nx φ H (φ.freeze a) H := by
  have n0 : Nx φ H (φ.freeze a) H := ⟨⟨[], by simp [Ms.freeze], by simp⟩, rfl, fun _ z => .tail _ z, fun _ _ z _ => z, fun _ z => z⟩
  have z0 := h.at_ n _ a hs ha
  refine ⟨⟨h.nd, by simp [Ms.freeze, h.len], fun m u b e1 e2 => ?_, h.ap, h.ext, fun b m => ?_⟩, n0⟩
  · by_cases hmn : n = m
    · subst hmn
      have : b = a := by
        have e2 : φ.at_[n]? = some b := e2
        rw [ha] at e2; cases e2; rfl
      subst this
      rw [List.getElem?_set] at e1
      simp only [if_true] at e1
      split at e1
      · cases e1
        obtain ⟨_, vs, e3, r⟩ := z0
        exact ⟨.head _, vs, e3, dps_mono n0.same r⟩
      · cases e1
    · rw [List.getElem?_set_ne hmn] at e1
      have e2 : φ.at_[m]? = some b := e2
      have hb : b ≠ a := fun z => by
        subst z
        obtain ⟨i1, q1⟩ := List.getElem?_eq_some_iff.mp e2
        obtain ⟨i2, q2⟩ := List.getElem?_eq_some_iff.mp ha
        exact hmn ((List.getElem_inj h.nd).mp (q2.trans q1.symm))
      have z := h.at_ m u b e1 e2
      cases u with
      | dl xs =>
        obtain ⟨nf, vs, e3, r⟩ := z
        refine ⟨fun y => ?_, vs, e3, dps_mono n0.same r⟩
        cases y with
        | head => exact hb rfl
        | tail _ y => exact nf y
      | fz xs =>
        obtain ⟨nf, vs, e3, r⟩ := z
        exact ⟨.tail _ nf, vs, e3, dps_mono n0.same r⟩
      | dd xs =>
        obtain ⟨nf, vs, e3, r⟩ := z
        refine ⟨fun y => ?_, vs, e3, r.mono n0.same⟩
        cases y with
        | head => exact hb rfl
        | tail _ y => exact nf y
      | rl xs =>
        obtain ⟨nf, vs, e3, r⟩ := z
        refine ⟨fun y => ?_, vs, e3, r.mono n0⟩
        cases y with
        | head => exact hb rfl
        | tail _ y => exact nf y
      | rt xs =>
        obtain ⟨nf, vs, e3, r⟩ := z
        refine ⟨fun y => ?_, vs, e3, r.mono n0⟩
        cases y with
        | head => exact hb rfl
        | tail _ y => exact nf y
      | mp xs =>
        obtain ⟨nf, r⟩ := z
        refine ⟨fun y => ?_, r.mono (fun _ _ r => r.mono n0) n0.same (fun _ e => e)⟩
        cases y with
        | head => exact hb rfl
        | tail _ y => exact nf y
      | _ => exact z.elim
  · have m : b ∈ a :: φ.fz := m
    cases m with
    | head => exact z0.there
    | tail _ m => exact h.fzt b m
/-- a frozen list is data -/
theorem SR.frozen {K : PySem.W.Frag} {φ : Ms} {H : Hp} {S : Sto} (h : SR K φ H S) {n : Nat} {a : Addr} (ha : φ.at_[n]? = some a) {xs : List D} (hs : S[n]? = some (.fz xs)) : DR K φ H (.ref a) (.list xs) := by
  obtain ⟨nf, vs, e3, r⟩ := h.at_ n _ a hs ha
  have hm : a ∈ φ.at_ := List.mem_of_getElem? ha
  exact .lst (SqL.of (hid_of (fun m => by
    rcases m with m | m
    · exact m.2 nf
    · exact h.ap a m hm) e3)) r
/-- one more thing hidden -/
def Ms.hide (φ : Ms) (p : Addr) : Ms := ⟨φ.at_, p :: φ.ex, φ.fz⟩
end Ft
namespace Ft
variable [Wd]
open PySem PySem.Spec L2
inductive FsR (K : PySem.W.Frag) (φ : Ms) (H : Hp) : List (Str × D) → List (Str × V) → Prop
  | nil : FsR K φ H [] []
  | cons {f : Str} {x : D} {v : V} {xs : List (Str × D)} {vs : List (Str × V)} : DR K φ H v x → FsR K φ H xs vs → FsR K φ H ((f, x) :: xs) ((f, v) :: vs)
/-- an error -/
def EvR (cl : Nat → Addr) (K : PySem.W.Frag) (φ : Ms) (H : Hp) (e : Ev) (cls : Value) (dd : Option Addr) : Prop :=
  cls = .ref (cl e.cls) ∧ (e.fs = [] ∨ ∃ d vs, dd = some d ∧ hid φ H d = some (.xd vs) ∧ FsR K φ H e.fs vs)
section
variable (cl : Nat → Addr) (K : PySem.W.Frag) (W' : WX)
/-- what is wanted of a result -/
def Out {α β : Type} (R : Ms → Hp → α → β → Prop) (σ : St) (φ : Ms) (H : Hp) (r : Res α) (Q : β → Hp → Prop) : Prop := match r with
  | .ok w S' => ∀ φ' v H', Nx φ H φ' H' → SR K φ' H' S' → R φ' H' w v → Q v H'
  | .exc e S' => ∀ φ' cls dd H', Nx φ H φ' H' → SR K φ' H' S' → EvR cl K φ' H' e cls dd → W' cls dd σ H'
  | .no => False
def OutS (φ : Ms) (H : Hp) (r : Res Fl) (D : Ends) : Prop := match r with
  | .ok (.nx τ) S' => ∀ φ' H' σ, Nx φ H φ' H' → SR K φ' H' S' → LR K φ' H' τ σ → D.nx σ H'
  | .ok (.ret w) S' => ∀ φ' H' v, Nx φ H φ' H' → SR K φ' H' S' → WR K φ' H' w v → D.rt v H'
  | .ok (.brk τ) S' => ∀ φ' H' σ, Nx φ H φ' H' → SR K φ' H' S' → LR K φ' H' τ σ → D.bk σ H'
  | .ok (.cnt τ) S' => ∀ φ' H' σ, Nx φ H φ' H' → SR K φ' H' S' → LR K φ' H' τ σ → D.ct σ H'
  | .ok (.rs τ e) S' => ∀ φ' H' σ cls dd, Nx φ H φ' H' → SR K φ' H' S' → LR K φ' H' τ σ → EvR cl K φ' H' e cls dd → W' cls dd σ H'
  | _ => False
def eqR : Ms → Hp → Bool → Bool → Prop := fun _ _ a b => a = b
/-- readings -/
def rdE (m : Lo → Sto → Res W) : TE := fun σ H Q => ∃ τ S φ, LR K φ H τ σ ∧ SR K φ H S ∧ Out cl K W' (WR K) σ φ H (m τ S) Q
def rdA (m : Lo → Sto → Res (List W)) : TA := fun σ H Q => ∃ τ S φ, LR K φ H τ σ ∧ SR K φ H S ∧ Out cl K W' (WRs K) σ φ H (m τ S) Q
def rdT (m : Lo → Sto → Res Bool) : TT := fun σ H Q => ∃ τ S φ, LR K φ H τ σ ∧ SR K φ H S ∧ Out cl K W' eqR σ φ H (m τ S) Q
/-- what is walked -/
def Wk (J : It) (φ0 : Ms) (H0 : Hp) (xs : List D) : Prop := ∀ φ H, Same (hid φ0 H0) (hid φ H) → (∀ a, φ.has a → H a ≠ none) → ∀ i : Nat,
  (i < xs.length → J.go i H ∧ ∀ v H', J.yld i H v H' → Same H H' ∧ ∃ d, xs[i]? = some d ∧ DR K φ H' v d) ∧ (i = xs.length → J.stop i H)
def rdI (m : Lo → Sto → Res (List D)) : TI := fun σ H R => ∃ τ S φ, LR K φ H τ σ ∧ SR K φ H S ∧ Out cl K W' (fun φ' H' xs J => Wk K J φ' H' xs) σ φ H (m τ S) R
def rdG (sl : List Nat) (m : Lo → Sto → W → Res Lo) : TG := fun v σ H Q => ∃ τ S φ w, LR K φ H τ σ ∧ SR K φ H S ∧ WR K φ H w v ∧ match m τ S w with
  | .ok τ' S' => ∀ φ' H' σ', Nx φ H φ' H' → SR K φ' H' S' → LR K φ' H' τ' σ' → (∀ vs, (∀ i ∈ sl, i ∈ vs) → wipe σ' vs = wipe σ vs) → Q σ' H'
  | _ => False
def rdGs (sl : List Nat) (m : Lo → Sto → W → Res Lo) : TGs := fun vs σ H Q => ∃ τ S φ xs, LR K φ H τ σ ∧ SR K φ H S ∧ DRs K φ H vs xs ∧ match m τ S (.d (.tuple xs)) with
  | .ok τ' S' => ∀ φ' H' σ', Nx φ H φ' H' → SR K φ' H' S' → LR K φ' H' τ' σ' → (∀ vs, (∀ i ∈ sl, i ∈ vs) → wipe σ' vs = wipe σ vs) → Q σ' H'
  | _ => False
def rdS (m : Lo → Sto → Res Fl) : TS := fun D σ H => ∃ τ S φ, LR K φ H τ σ ∧ SR K φ H S ∧ OutS cl K W' φ H (m τ S) D
end
section
variable {cl : Nat → Addr} {K : PySem.W.Frag} {W' : WX}
/-- one thing after another -/
theorem Out.step {α β γ δ : Type} {R : Ms → Hp → α → β → Prop} {R' : Ms → Hp → γ → δ → Prop} {σ : St} {φ : Ms} {H : Hp} {r : Res α} {f : α → Sto → Res γ} {Q : δ → Hp → Prop} {Q' : β → Hp → Prop}
    (h : Out cl K W' R' σ φ H (r.bind f) Q)
    (g : ∀ w S1 φ1 v H1, r = .ok w S1 → Nx φ H φ1 H1 → SR K φ1 H1 S1 → R φ1 H1 w v → Out cl K W' R' σ φ1 H1 (f w S1) Q → Q' v H1) : Out cl K W' R σ φ H r Q' := by
  cases r with
  | no => exact h
  | exc e S => exact h
  | ok w S =>
    intro φ1 v H1 n s r
    refine g w S φ1 v H1 rfl n s r ?_
    have h' : Out cl K W' R' σ φ H (f w S) Q := h
    cases q : f w S with
    | no => rw [q] at h'; exact h'
    | exc e S2 =>
      rw [q] at h'
      exact fun φ' cls dd H' n' s' e' => h' φ' cls dd H' (n.trans n') s' e'
    | ok u S2 =>
      rw [q] at h'
      exact fun φ' v' H' n' s' r' => h' φ' v' H' (n.trans n') s' r'
theorem Out.later {α β : Type} {R : Ms → Hp → α → β → Prop} {σ : St} {φ φ1 : Ms} {H H1 : Hp} {r : Res α} {Q : β → Hp → Prop} (h : Out cl K W' R σ φ H r Q) (n : Nx φ H φ1 H1) : Out cl K W' R σ φ1 H1 r Q := by
  cases r with
  | no => exact h
  | exc e S2 => exact fun φ' cls dd H' n' s' e' => h φ' cls dd H' (n.trans n') s' e'
  | ok u S2 => exact fun φ' v' H' n' s' r' => h φ' v' H' (n.trans n') s' r'
theorem Out.now {α β : Type} {R : Ms → Hp → α → β → Prop} {σ : St} {φ : Ms} {H : Hp} {w : α} {S : Sto} {Q : β → Hp → Prop} (h : Out cl K W' R σ φ H (.ok w S) Q) (s : SR K φ H S) {v : β} (r : R φ H w v) : Q v H := h φ v H Nx.refl s r
/-- the value is data -/
theorem Out.opt {σ : St} {φ : Ms} {H : Hp} {o : Option D} {S : Sto} {Q : VK} (h : Out cl K W' (WR K) σ φ H (opt (o.map W.d) S) Q) (s : SR K φ H S) : ∃ z, o = some z ∧ ∀ v H', Same H H' → DR K φ H' v z → Q v H' := by
  cases o with
  | none => exact h.elim
  | some z =>
    refine ⟨z, rfl, fun v H' e r => ?_⟩
    obtain ⟨s', n⟩ := s.keep e
    exact h φ v H' n s' r
theorem weak {X : Cx} {e : Expr} {t t' : TE} (h : PE X e t) (q : ∀ σ H Q, t' σ H Q → t σ H Q) : PE X e t' := ⟨fun pins s σ H Q I z => h.run pins s σ H Q I (q _ _ _ z)⟩
theorem weakT {X : Cx} {e : Expr} {t t' : TT} (h : PT X e t) (q : ∀ σ H Q, t' σ H Q → t σ H Q) : PT X e t' := ⟨fun pins s σ H Q I z => h.run pins s σ H Q I (q _ _ _ z)⟩
theorem weakA {X : Cx} {e : List Expr} {t t' : TA} (h : PA X e t) (q : ∀ σ H Q, t' σ H Q → t σ H Q) : PA X e t' := ⟨fun pos pins s σ H Q I z => h.run pos pins s σ H Q I (q _ _ _ z)⟩
theorem weakS {X : Cx} {e : Stmt} {t t' : TS} (h : PS X e t) (q : ∀ D σ H, t' D σ H → t D σ H) : PS X e t' := ⟨fun pins s σ H D I z => h.run pins s σ H D I (q _ _ _ z)⟩
theorem weakSs {X : Cx} {e : List Stmt} {t t' : TS} (h : PSs X e t) (q : ∀ D σ H, t' D σ H → t D σ H) : PSs X e t' := ⟨fun pins s σ H D I z => h.run pins s σ H D I (q _ _ _ z)⟩
theorem weakG {X : Cx} {e : Expr} {t t' : TG} (h : PG X e t) (q : ∀ v σ H Q, t' v σ H Q → t v σ H Q) : PG X e t' := ⟨fun pins s σ H v u Q I r z => h.run pins s σ H v u Q I r (q _ _ _ _ z)⟩
theorem weakI {X : Cx} {tg e : Expr} {t t' : TI} (h : PI X tg e t) (q : ∀ σ H R, t' σ H R → t σ H R) : PI X tg e t' := ⟨fun pins s σ H R I z => h.run pins s σ H R I (q _ _ _ z)⟩
end
section
variable (X : Cx)
def OpD (f : Value → Value → Sem Value) (g : D → D → Option D) : Prop := ∀ φ : Ms, OpR X f (fun x y H Q => ∃ d e z, Dp X.K (hid φ H) x d ∧ Dp X.K (hid φ H) y e ∧ g d e = some z ∧ (∀ a, φ.has a → H a ≠ none) ∧ ∀ v H', Same H H' → Dp X.K (hid φ H') v z → Q v H')
def UnD (f : Value → Sem Value) (g : D → Option D) : Prop := ∀ φ : Ms, UnR X f (fun x H Q => ∃ d z, Dp X.K (hid φ H) x d ∧ g d = some z ∧ (∀ a, φ.has a → H a ≠ none) ∧ ∀ v H', Same H H' → Dp X.K (hid φ H') v z → Q v H')
def CallD (f : Value) (g : List D → Option D) : Prop := ∀ φ : Ms, CallR X f (fun xs H Q => ∃ ds z, DpAll X.K (hid φ H) xs ds ∧ g ds = some z ∧ (∀ a, φ.has a → H a ≠ none) ∧ ∀ v H', Same H H' → Dp X.K (hid φ H') v z → Q v H')
end
def Tg.slots : Tg → List Nat
  | .v i => [i]
  | .t l r => l.slots ++ r.slots
  | .e => []
  | .s _ _ => []
  | .u i j => [i, j]
  | .us is => is
section
variable (cl : Nat → Addr) (W' : WX) (F : Fs) (X : Cx)
abbrev PEm (e : Expr) (m : Ex) : Prop := PE X e (rdE cl X.K W' fun τ S => ev F τ S m)
abbrev PAm (es : List Expr) (m : Exs) : Prop := PA X es (rdA cl X.K W' fun τ S => evs F τ S m)
abbrev PTm (e : Expr) (m : Te) : Prop := PT X e (rdT cl X.K W' fun τ S => evT F τ S m)
abbrev PWm (e : Expr) (m : Te) : Prop := PW X e (rdT cl X.K W' fun τ S => evT F τ S m)
abbrev PIm (tg e : Expr) (m : Ie) : Prop := PI X tg e (rdI cl X.K W' fun τ S => evI F τ S m)
abbrev PGm (e : Expr) (m : Tg) : Prop := PG X e (rdG X.K m.slots fun τ S w => put F τ S w m)
abbrev PGsm (es : List Expr) (m : Tg) : Prop := PGs X es (rdGs X.K m.slots fun τ S w => put F τ S w m)
abbrev PKm (es : List Keyword) (m : Exs) : Prop := PK X es (rdA cl X.K W' fun τ S => evs F τ S m)
abbrev PSm (e : Stmt) (m : Sm) : Prop := PS X e (rdS cl X.K W' fun τ S => exe F τ S m)
abbrev PBm (e : List Stmt) (m : Bk) : Prop := PSs X e (rdS cl X.K W' fun τ S => exs F τ S m)
end
theorem tru_of {K : PySem.W.Frag} {φ : Ms} {H : Hp} {S : Sto} {w : W} {v : V} {b : Bool} (s : SR K φ H S) (r : WR K φ H w v) (h : wTruth w S = some b) : TruV K v H b := by
  have low : Same (hid φ H) H := fun a o e => (hid_some e).2
  cases w with
  | d x =>
    have r' : Dp K (hid φ H) v x := r
    have h' : dTruth x = some b := h
    cases r' with
    | non => cases h'; rfl
    | bl k => cases h'; rfl
    | int i => cases h'; rfl
    | str x =>
      have h2 : (if x.length ≤ sizeLine then some (x.length != 0) else none) = some b := h'
      clear h'
      have h' := h2
      split at h'
      · cases h'
        refine ⟨by assumption, ?_⟩
        show (x.length != 0) = ((x.length : Int) != 0)
        cases x.length with
        | zero => rfl
        | succ n => rfl
      · cases h'
    | lst h1 h2 =>
      cases h'
      refine .inl ⟨_, seqL_mono low h1, ?_⟩
      cases h2 <;> rfl
    | tup h1 h2 =>
      cases h'
      refine .inr (.inl ⟨_, seqT_mono low h1, ?_⟩)
      cases h2 <;> rfl
    | dic h1 => cases h'
  | ref n =>
    obtain ⟨a, e, rfl⟩ := r
    have h' : (match S[n]? with
      | some (.dl xs) => some (!xs.isEmpty)
      | some (.fz xs) => some (!xs.isEmpty)
      | _ => none) = some b := h
    cases q : S[n]? with
    | none => rw [q] at h'; cases h'
    | some ob =>
      rw [q] at h'
      have z := s.at_ n ob a q e
      cases ob with
      | dl xs =>
        obtain ⟨_, vs, e1, e2⟩ := z
        cases h'
        refine .inl ⟨vs, .inl (.inl e1), ?_⟩
        cases e2 <;> rfl
      | fz xs =>
        obtain ⟨_, vs, e1, e2⟩ := z
        cases h'
        refine .inl ⟨vs, .inl (.inl e1), ?_⟩
        cases e2 <;> rfl
      | dd _ => cases h'
      | rl _ => cases h'
      | rt _ => cases h'
      | mp _ => cases h'
      | _ => exact False.elim z
/-- a store's list or data, read -/
theorem asData_at {K : PySem.W.Frag} {φ : Ms} {H : Hp} {S : Sto} {w : W} {v : V} {x : D} (s : SR K φ H S) (r : WR K φ H w v) (h : asData S w = some x) : Dp K (hid φ H) v x ∨ ∃ p vs xs, v = .ref p ∧ x = .list xs ∧ H p = some (.lst vs) ∧ DRs K φ H vs xs := by
  cases w with
  | d y =>
    cases h
    exact .inl r
  | ref n =>
    obtain ⟨a, e, rfl⟩ := r
    have h' : (match S[n]? with
      | some (.dl xs) => some (PyData.list xs)
      | some (.fz xs) => some (PyData.list xs)
      | _ => none) = some x := h
    cases q : S[n]? with
    | none => rw [q] at h'; cases h'
    | some ob =>
      rw [q] at h'
      have z := s.at_ n ob a q e
      cases ob with
      | dl xs =>
        obtain ⟨_, vs, e1, e2⟩ := z
        cases h'
        exact .inr ⟨a, vs, xs, rfl, rfl, e1, e2⟩
      | fz xs =>
        obtain ⟨_, vs, e1, e2⟩ := z
        cases h'
        exact .inr ⟨a, vs, xs, rfl, rfl, e1, e2⟩
      | dd _ => cases h'
      | rl _ => cases h'
      | rt _ => cases h'
      | mp _ => cases h'
      | _ => exact False.elim z
theorem push_same {K : PySem.W.Frag} {φ : Ms} {H : Hp} {S : Sto} (s : SR K φ H S) {p : Addr} (hp : H p = none) {o : HO} : Same (hid φ H) (hid (φ.push p) (upd H p o)) := fun b u e => by
  obtain ⟨e1, e2⟩ := hid_some e
  refine hid_of (fun m => ?_) (same_new hp b u e2)
  rcases m with ⟨m, nf⟩ | m
  · rcases List.mem_append.mp (show b ∈ φ.at_ ++ [p] from m) with m | m
    · exact e1 (.inl ⟨m, nf⟩)
    · simp at m
      subst m
      rw [hp] at e2
      cases e2
  · exact e1 (.inr m)
theorem low {φ : Ms} {H : Hp} : Same (hid φ H) H := fun _ _ e => (hid_some e).2
section
variable {cl : Nat → Addr} {W' : WX} {F : Fs} {X : Cx} {a b c : Expr} {ma mb mc : Ex} {pos : Pos}
theorem r_var {i : Nat} {x : Str} (hN : X.N[i]? = some x) (hv : Vis X.env.scope x) (hd : (x == ("__debug__" : Str)) = false) (hcd : (x == ("__classdict__" : Str)) = false) : PEm cl W' F X (.Name x pos) (.var i) := weak (pe_var hN hv hd hcd) fun σ H Q ⟨τ, S, φ, l, s, h⟩ => by
  simp only [ev] at h
  cases q : τ[i]? with
  | none => rw [q] at h; exact h.elim
  | some o =>
    rw [q] at h
    cases o with
    | none => exact h.elim
    | some w =>
      obtain ⟨v, e', r⟩ := l.at_ i w q
      exact ⟨v, e', h.now s r⟩
theorem r_c {x : D} {v : V} {e : Expr} (he : PE X e (tC v)) (hd : ∀ H, Dp X.K H v x) : PEm cl W' F X e (.c x) := weak he fun σ H Q ⟨τ, S, φ, l, s, h⟩ => by
  simp only [ev] at h
  exact h.now s (hd _)
theorem r_op2 {op : Operator} {g : D → D → Option D} (ho : OpD X (binaryOp op) g) (ha : PEm cl W' F X a ma) (hb : PEm cl W' F X b mb) : PEm cl W' F X (.BinOp a op b pos) (.op2 g ma mb) := by
  refine ⟨fun pins s σ H Q I ⟨τ, S, φ, l, sr, h⟩ => ?_⟩
  simp only [ev] at h
  refine (pe_op (r := fun x y H Q => ∃ φ : Ms, ∃ d e z, Dp X.K (hid φ H) x d ∧ Dp X.K (hid φ H) y e ∧ g d e = some z ∧ (∀ a, φ.has a → H a ≠ none) ∧ ∀ v H', Same H H' → Dp X.K (hid φ H') v z → Q v H') (fun pins s σ H x y v u Q I rx ry ⟨φ, z⟩ => ho φ pins s σ H x y v u Q I rx ry z) ha hb).run pins s σ H Q I ?_
  refine ⟨τ, S, φ, l, sr, h.step fun w S1 φ1 v H1 _ n1 s1 r1 h1 => ?_⟩
  refine ⟨τ, S1, φ1, l.mono n1, s1, h1.step fun u S2 φ2 v2 H2 _ n2 s2 r2 h2 => ?_⟩
  have r1' := r1.mono n2
  cases w with
  | ref n => exact (show False from h2).elim
  | d x =>
    cases u with
    | ref n => exact (show False from h2).elim
    | d y =>
      obtain ⟨z, ez, q⟩ := Out.opt h2 s2
      exact ⟨φ2, x, y, z, r1', r2, ez, s2.there, q⟩
theorem r_cmp {op : CmpOp} {g : D → D → Option D} (ho : OpD X (compareOp op) g) (ha : PEm cl W' F X a ma) (hb : PEm cl W' F X b mb) (hm : behindInMarks op b = false) : PEm cl W' F X (.Compare a [op] [b] pos) (.op2 g ma mb) := by
  refine ⟨fun pins s σ H Q I ⟨τ, S, φ, l, sr, h⟩ => ?_⟩
  simp only [ev] at h
  refine (pe_cmpR (r := fun x y H Q => ∃ φ : Ms, ∃ d e z, Dp X.K (hid φ H) x d ∧ Dp X.K (hid φ H) y e ∧ g d e = some z ∧ (∀ a, φ.has a → H a ≠ none) ∧ ∀ v H', Same H H' → Dp X.K (hid φ H') v z → Q v H') (fun pins s σ H x y v u Q I rx ry ⟨φ, z⟩ => ho φ pins s σ H x y v u Q I rx ry z) ha hb hm).run pins s σ H Q I ?_
  refine ⟨τ, S, φ, l, sr, h.step fun w S1 φ1 v H1 _ n1 s1 r1 h1 => ?_⟩
  refine ⟨τ, S1, φ1, l.mono n1, s1, h1.step fun u S2 φ2 v2 H2 _ n2 s2 r2 h2 => ?_⟩
  have r1' := r1.mono n2
  cases w with
  | ref n => exact (show False from h2).elim
  | d x =>
    cases u with
    | ref n => exact (show False from h2).elim
    | d y =>
      obtain ⟨z, ez, q⟩ := Out.opt h2 s2
      exact ⟨φ2, x, y, z, r1', r2, ez, s2.there, q⟩
/-- what gives a truth value -/
def Boo (g : D → D → Option D) : Prop := ∀ x y z, g x y = some z → ∃ k, z = .bool k
theorem r_tcmp {op : CmpOp} {g : D → D → Option D} (hg : Boo g) (ho : OpD X (compareOp op) g) (ha : PEm cl W' F X a ma) (hb : PEm cl W' F X b mb) (hm : behindInMarks op b = false) : PTm cl W' F X (.Compare a [op] [b] pos) (.e (.op2 g ma mb)) := by
  refine ⟨fun pins s σ H Q I ⟨τ, S, φ, l, sr, h⟩ => ?_⟩
  simp only [evT, ev] at h
  refine (pt_cmpR (r := fun x y H Q => ∃ φ : Ms, ∃ d e z, Dp X.K (hid φ H) x d ∧ Dp X.K (hid φ H) y e ∧ g d e = some z ∧ (∀ a, φ.has a → H a ≠ none) ∧ ∀ v H', Same H H' → Dp X.K (hid φ H') v z → Q v H') (fun pins s σ H x y v u Q I rx ry ⟨φ, z⟩ => ho φ pins s σ H x y v u Q I rx ry z) ha hb hm).run pins s σ H Q I ?_
  have assoc : ∀ (r : Res W) (f : W → Sto → Res W) (g : W → Sto → Res Bool), (r.bind f).bind g = r.bind fun w S => (f w S).bind g := fun r f g => by cases r <;> rfl
  rw [assoc] at h
  refine ⟨τ, S, φ, l, sr, h.step fun w S1 φ1 v H1 _ n1 s1 r1 h1 => ?_⟩
  rw [assoc] at h1
  refine ⟨τ, S1, φ1, l.mono n1, s1, h1.step fun u S2 φ2 v2 H2 _ n2 s2 r2 h2 => ?_⟩
  have r1' := r1.mono n2
  cases w with
  | ref n => exact (show False from h2).elim
  | d x =>
    cases u with
    | ref n => exact (show False from h2).elim
    | d y =>
      have h3 : Out cl X.K W' eqR σ φ2 H2 ((opt ((g x y).map W.d) S2).bind fun w S1 => opt (wTruth w S1) S1) Q := h2
      cases q : g x y with
      | none => rw [q] at h3; exact h3.elim
      | some z =>
        obtain ⟨k, rfl⟩ := hg x y z q
        rw [q] at h3
        refine ⟨φ2, x, y, _, r1', r2, q, s2.there, fun v H' e r => ?_⟩
        cases r
        obtain ⟨s', n⟩ := s2.keep e
        exact ⟨k, rfl, h3 φ2 k H' n s' rfl⟩
/-- a comparison that only reads -/
def ms0 : Ms := ⟨[], [], []⟩
theorem hid0 (H : Hp) : hid ms0 H = H := funext fun a => by
  unfold hid
  rw [if_neg (fun z => by rcases z with ⟨m, _⟩ | m <;> cases m)]
theorem asData_dp {K : PySem.W.Frag} {φ : Ms} {H : Hp} {S : Sto} {w : W} {v : V} {x : D} (s : SR K φ H S) (r : WR K φ H w v) (h : asData S w = some x) : Dp K (hid ms0 H) v x := by
  rw [hid0]
  rcases asData_at s r h with r | ⟨p, vs, xs, rfl, rfl, e, rs⟩
  · exact dp_mono low r
  · exact .lst (SqL.of e) (dps_mono low rs)
theorem r_cmpD {op : CmpOp} {g : D → D → Option D} (hg : Boo g) (ho : OpD X (compareOp op) g) (ha : PEm cl W' F X a ma) (hb : PEm cl W' F X b mb) (hm : behindInMarks op b = false) : PEm cl W' F X (.Compare a [op] [b] pos) (.cmpR g ma mb) := by
  refine ⟨fun pins s σ H Q I ⟨τ, S, φ, l, sr, h⟩ => ?_⟩
  simp only [ev] at h
  refine (pe_cmpR (r := fun x y H Q => ∃ φ : Ms, ∃ d e z, Dp X.K (hid φ H) x d ∧ Dp X.K (hid φ H) y e ∧ g d e = some z ∧ (∀ a, φ.has a → H a ≠ none) ∧ ∀ v H', Same H H' → Dp X.K (hid φ H') v z → Q v H') (fun pins s σ H x y v u Q I rx ry ⟨φ, z⟩ => ho φ pins s σ H x y v u Q I rx ry z) ha hb hm).run pins s σ H Q I ?_
  refine ⟨τ, S, φ, l, sr, h.step fun w S1 φ1 v H1 _ n1 s1 r1 h1 => ?_⟩
  refine ⟨τ, S1, φ1, l.mono n1, s1, h1.step fun u S2 φ2 v2 H2 _ n2 s2 r2 h2 => ?_⟩
  have r1' := r1.mono n2
  cases e1 : asData S2 w with
  | none => rw [e1] at h2; exact (show False from h2).elim
  | some x =>
    cases e2 : asData S2 u with
    | none => rw [e1, e2] at h2; exact (show False from h2).elim
    | some y =>
      rw [e1, e2] at h2
      obtain ⟨z, ez, q⟩ := Out.opt h2 s2
      obtain ⟨k, rfl⟩ := hg x y z ez
      exact ⟨ms0, x, y, _, asData_dp s2 r1' e1, asData_dp s2 r2 e2, ez, fun a ha => (by rcases ha with ⟨m, _⟩ | m <;> cases m), fun v H' e r => (by cases r; exact q _ H' e (.bl _))⟩
theorem r_tcmpD {op : CmpOp} {g : D → D → Option D} (hg : Boo g) (ho : OpD X (compareOp op) g) (ha : PEm cl W' F X a ma) (hb : PEm cl W' F X b mb) (hm : behindInMarks op b = false) : PTm cl W' F X (.Compare a [op] [b] pos) (.e (.cmpR g ma mb)) := by
  refine ⟨fun pins s σ H Q I ⟨τ, S, φ, l, sr, h⟩ => ?_⟩
  simp only [evT, ev] at h
  refine (pt_cmpR (r := fun x y H Q => ∃ φ : Ms, ∃ d e z, Dp X.K (hid φ H) x d ∧ Dp X.K (hid φ H) y e ∧ g d e = some z ∧ (∀ a, φ.has a → H a ≠ none) ∧ ∀ v H', Same H H' → Dp X.K (hid φ H') v z → Q v H') (fun pins s σ H x y v u Q I rx ry ⟨φ, z⟩ => ho φ pins s σ H x y v u Q I rx ry z) ha hb hm).run pins s σ H Q I ?_
  have assoc : ∀ (r : Res W) (f : W → Sto → Res W) (g : W → Sto → Res Bool), (r.bind f).bind g = r.bind fun w S => (f w S).bind g := fun r f g => by cases r <;> rfl
  rw [assoc] at h
  refine ⟨τ, S, φ, l, sr, h.step fun w S1 φ1 v H1 _ n1 s1 r1 h1 => ?_⟩
  rw [assoc] at h1
  refine ⟨τ, S1, φ1, l.mono n1, s1, h1.step fun u S2 φ2 v2 H2 _ n2 s2 r2 h2 => ?_⟩
  have r1' := r1.mono n2
  cases e1 : asData S2 w with
  | none => rw [e1] at h2; exact (show False from h2).elim
  | some x =>
    cases e2 : asData S2 u with
    | none => rw [e1, e2] at h2; exact (show False from h2).elim
    | some y =>
      rw [e1, e2] at h2
      have h3 : Out cl X.K W' eqR σ φ2 H2 ((opt ((g x y).map W.d) S2).bind fun w S1 => opt (wTruth w S1) S1) Q := h2
      cases q : g x y with
      | none => rw [q] at h3; exact h3.elim
      | some z =>
        obtain ⟨k, rfl⟩ := hg x y z q
        rw [q] at h3
        refine ⟨ms0, x, y, _, asData_dp s2 r1' e1, asData_dp s2 r2 e2, q, fun a ha => (by rcases ha with ⟨m, _⟩ | m <;> cases m), fun v H' e r => ?_⟩
        cases r
        obtain ⟨s', n⟩ := s2.keep e
        exact ⟨k, rfl, h3 φ2 k H' n s' rfl⟩
theorem r_neg {g : D → Option D} {op : UnaryOp} (ho : UnD X (unaryOp op) g) (ha : PEm cl W' F X a ma) : PEm cl W' F X (.UnaryOp op a pos) (.op1 g ma) := by
  refine ⟨fun pins s σ H Q I ⟨τ, S, φ, l, sr, h⟩ => ?_⟩
  simp only [ev] at h
  refine (pe_un (r := fun x H Q => ∃ φ : Ms, ∃ d z, Dp X.K (hid φ H) x d ∧ g d = some z ∧ (∀ a, φ.has a → H a ≠ none) ∧ ∀ v H', Same H H' → Dp X.K (hid φ H') v z → Q v H') (fun pins s σ H x v Q I rx ⟨φ, z⟩ => ho φ pins s σ H x v Q I rx z) ha).run pins s σ H Q I ?_
  refine ⟨τ, S, φ, l, sr, h.step fun w S1 φ1 v H1 _ n1 s1 r1 h1 => ?_⟩
  cases w with
  | ref n => exact (show False from h1).elim
  | d x =>
    obtain ⟨z, ez, q⟩ := Out.opt h1 s1
    exact ⟨φ1, x, z, r1, ez, s1.there, q⟩
theorem r_ite {tc : Te} (hc : PTm cl W' F X c tc) (ha : PEm cl W' F X a ma) (hb : PEm cl W' F X b mb) : PEm cl W' F X (.IfExp c a b pos) (.ite tc ma mb) := weak (pe_ifExp hc ha hb) fun σ H Q ⟨τ, S, φ, l, sr, h⟩ => by
  simp only [ev] at h
  refine ⟨τ, S, φ, l, sr, h.step fun k S1 φ1 v H1 _ n1 s1 r1 h1 => ?_⟩
  cases r1
  cases k with
  | true => exact ⟨τ, S1, φ1, l.mono n1, s1, h1⟩
  | false => exact ⟨τ, S1, φ1, l.mono n1, s1, h1⟩
theorem r_and {rest : List Expr} (ha : PEm cl W' F X a ma) (hb : PEm cl W' F X (.BoolOp .And (b :: rest) pos) mb) : PEm cl W' F X (.BoolOp .And (a :: b :: rest) pos) (.and ma mb) := weak (pe_andT ha hb) fun σ H Q ⟨τ, S, φ, l, sr, h⟩ => by
  simp only [ev] at h
  refine ⟨τ, S, φ, l, sr, h.step fun w S1 φ1 v H1 _ n1 s1 r1 h1 => ?_⟩
  cases q : wTruth w S1 with
  | none => rw [q] at h1; exact h1.elim
  | some k =>
    rw [q] at h1
    refine ⟨k, tru_of s1 r1 q, ?_⟩
    cases k with
    | true => exact ⟨τ, S1, φ1, l.mono n1, s1, h1⟩
    | false => exact h1.now s1 r1
theorem r_or {rest : List Expr} (ha : PEm cl W' F X a ma) (hb : PEm cl W' F X (.BoolOp .Or (b :: rest) pos) mb) : PEm cl W' F X (.BoolOp .Or (a :: b :: rest) pos) (.or ma mb) := weak (pe_orT ha hb) fun σ H Q ⟨τ, S, φ, l, sr, h⟩ => by
  simp only [ev] at h
  refine ⟨τ, S, φ, l, sr, h.step fun w S1 φ1 v H1 _ n1 s1 r1 h1 => ?_⟩
  cases q : wTruth w S1 with
  | none => rw [q] at h1; exact h1.elim
  | some k =>
    rw [q] at h1
    refine ⟨k, tru_of s1 r1 q, ?_⟩
    cases k with
    | true => exact h1.now s1 r1
    | false => exact ⟨τ, S1, φ1, l.mono n1, s1, h1⟩
theorem r_not (ha : PEm cl W' F X a ma) : PEm cl W' F X (.UnaryOp .Not a pos) (.not ma) := weak (pe_notT ha) fun σ H Q ⟨τ, S, φ, l, sr, h⟩ => by
  simp only [ev] at h
  refine ⟨τ, S, φ, l, sr, h.step fun w S1 φ1 v H1 _ n1 s1 r1 h1 => ?_⟩
  cases q : wTruth w S1 with
  | none => rw [q] at h1; exact h1.elim
  | some k =>
    rw [q] at h1
    exact ⟨k, tru_of s1 r1 q, h1.now s1 (.bl _)⟩
theorem r_one {op : BoolOp} (ha : PEm cl W' F X a ma) : PEm cl W' F X (.BoolOp op [a] pos) ma := pe_one ha
theorem dp_bool {K : PySem.W.Frag} {H : Hp} {v : V} {k : Bool} (h : Dp K H v (.bool k)) : v = .bl k := by cases h; rfl
theorem r_chain {op op' : CmpOp} {g g' : D → D → Option D} (hg : Boo g) (ho : OpD X (compareOp op) g) (ho' : OpD X (compareOp op') g') (ha : PEm cl W' F X a ma) (hb : PEm cl W' F X b mb) (hc : PEm cl W' F X c mc) (hm : behindInMarks op b = false) (hm' : behindInMarks op' c = false) :
    PEm cl W' F X (.Compare a [op, op'] [b, c] pos) (.chain g g' ma mb mc) := by
  refine ⟨fun pins s σ H Q I ⟨τ, S, φ, l, sr, h⟩ => ?_⟩
  simp only [ev] at h
  let R := fun (g : D → D → Option D) (x y : V) (H : Hp) (Q : VK) => ∃ φ : Ms, ∃ d e z, Dp X.K (hid φ H) x d ∧ Dp X.K (hid φ H) y e ∧ g d e = some z ∧ (∀ a, φ.has a → H a ≠ none) ∧ ∀ v H', Same H H' → Dp X.K (hid φ H') v z → Q v H'
  refine (pe_chain (r := R g) (r' := R g') (fun pins s σ H x y v u Q I rx ry ⟨φ, z⟩ => ho φ pins s σ H x y v u Q I rx ry z) (fun pins s σ H x y v u Q I rx ry ⟨φ, z⟩ => ho' φ pins s σ H x y v u Q I rx ry z) ha hb hc (by simp [lastMarks, hm, hm'])).run pins s σ H Q I ?_
  refine ⟨τ, S, φ, l, sr, h.step fun w S1 φ1 v H1 _ n1 s1 r1 h1 => ?_⟩
  refine ⟨τ, S1, φ1, l.mono n1, s1, h1.step fun u S2 φ2 v2 H2 _ n2 s2 r2 h2 => ?_⟩
  have r1' := r1.mono n2
  cases w with
  | ref n => exact (show False from h2).elim
  | d x =>
    cases u with
    | ref n => exact (show False from h2).elim
    | d y =>
      dsimp only at h2
      cases q : g x y with
      | none => rw [q] at h2; exact h2.elim
      | some z =>
        obtain ⟨k, rfl⟩ := hg x y z q
        rw [q] at h2
        refine ⟨φ2, x, y, _, r1', r2, q, s2.there, fun v3 H3 e r3 => ?_⟩
        obtain rfl := dp_bool r3
        obtain ⟨s3, n3⟩ := s2.keep e
        refine ⟨k, rfl, ?_⟩
        cases k with
        | false => exact (show Q (.bl false) H3 from h2 φ2 _ H3 n3 s3 (.bl _))
        | true =>
          refine ⟨τ, S2, φ2, ((l.mono n1).mono n2).mono n3, s3, Out.step (h2.later n3) fun t S4 φ4 v4 H4 _ n4 s4 r4 h4 => ?_⟩
          cases t with
          | ref n => exact (show False from h4).elim
          | d z =>
            obtain ⟨z', ez, q'⟩ := Out.opt h4 s4
            exact ⟨φ4, y, z, z', (r2.mono n3).mono n4, r4, ez, s4.there, q'⟩
theorem ra_nil : PAm cl W' F X [] .nil := weakA pa_nil fun σ H Q ⟨τ, S, φ, l, sr, h⟩ => by
  simp only [evs] at h
  exact h.now sr .nil
theorem ra_cons {e : Expr} {es : List Expr} {m : Ex} {ms : Exs} (he : PEm cl W' F X e m) (hr : PAm cl W' F X es ms) (hs : starEach (e :: es) X.env = (false, eval e X.env) :: starEach es X.env) : PAm cl W' F X (e :: es) (.cons m ms) := weakA (pa_cons he hr hs) fun σ H Q ⟨τ, S, φ, l, sr, h⟩ => by
  simp only [evs] at h
  refine ⟨τ, S, φ, l, sr, h.step fun w S1 φ1 v H1 _ n1 s1 r1 h1 => ?_⟩
  refine ⟨τ, S1, φ1, l.mono n1, s1, h1.step fun ws S2 φ2 vs H2 _ n2 s2 r2 h2 => ?_⟩
  exact h2.now s2 (.cons (r1.mono n2) r2)
theorem r_tup {es : List Expr} {ms : Exs} {x1 : Nat} (ha : PAm cl W' F X es ms) : PEm cl W' F X (.Tuple es x1 pos) (.tup ms) := weak (pe_tup ha) fun σ H Q ⟨τ, S, φ, l, sr, h⟩ => by
  simp only [ev] at h
  refine ⟨τ, S, φ, l, sr, h.step fun ws S1 φ1 vs H1 _ n1 s1 r1 h1 => ?_⟩
  cases q : datas ws with
  | none => rw [q] at h1; exact h1.elim
  | some xs =>
    rw [q] at h1
    have rs := r1.datas q
    have h2 : Out cl X.K W' (WR X.K) σ φ1 H1 (if xs.length ≤ sizeLine then .ok (.d (.tuple xs)) S1 else .no) Q := h1
    split at h2
    · refine ⟨by rw [dps_len rs]; assumption, fun p hp => ?_⟩
      obtain ⟨s', n⟩ := s1.keep (same_new (o := .tup vs) hp)
      refine h2 φ1 _ _ n s' (.tup (SqT.of (hid_of (fun m => s1.there p m hp) upd_same)) (dps_mono n.same rs))
    · exact h2.elim
theorem r_lst {es : List Expr} {ms : Exs} (ha : PAm cl W' F X es ms) : PEm cl W' F X (.List es pos) (.lst ms) := weak (pe_lst ha) fun σ H Q ⟨τ, S, φ, l, sr, h⟩ => by
  simp only [ev] at h
  refine ⟨τ, S, φ, l, sr, h.step fun ws S1 φ1 vs H1 _ n1 s1 r1 h1 => ?_⟩
  cases q : datas ws with
  | none => rw [q] at h1; exact h1.elim
  | some xs =>
    rw [q] at h1
    have rs := r1.datas q
    have h2 : Out cl X.K W' (WR X.K) σ φ1 H1 (if xs.length ≤ sizeLine then .ok (.d (.list xs)) S1 else .no) Q := h1
    split at h2
    · refine ⟨by rw [dps_len rs]; assumption, fun p hp => ?_⟩
      obtain ⟨s', n⟩ := s1.keep (same_new (o := .lst vs) hp)
      refine h2 φ1 _ _ n s' (.lst (SqL.of (hid_of (fun m => s1.there p m hp) upd_same)) (dps_mono n.same rs))
    · exact h2.elim
theorem r_nlst {es : List Expr} {ms : Exs} (ha : PAm cl W' F X es ms) : PEm cl W' F X (.List es pos) (.nlst ms) := weak (pe_lst ha) fun σ H Q ⟨τ, S, φ, l, sr, h⟩ => by
  simp only [ev] at h
  refine ⟨τ, S, φ, l, sr, h.step fun ws S1 φ1 vs H1 _ n1 s1 r1 h1 => ?_⟩
  cases q : datas ws with
  | none => rw [q] at h1; exact h1.elim
  | some xs =>
    rw [q] at h1
    have rs := r1.datas q
    have h2 : Out cl X.K W' (WR X.K) σ φ1 H1 (if xs.length ≤ sizeLine then .ok (.ref S1.length) (S1 ++ [.dl xs]) else .no) Q := h1
    split at h2
    · refine ⟨by rw [dps_len rs]; assumption, fun p hp => ?_⟩
      obtain ⟨s', n⟩ := s1.push hp (o := .lst vs) (ob := .dl xs) ⟨fun m => s1.fzt p m hp, vs, upd_same, dps_mono (push_same s1 hp) rs⟩
      refine h2 (φ1.push p) _ _ n s' ⟨p, ?_, rfl⟩
      show (φ1.at_ ++ [p])[S1.length]? = some p
      rw [List.getElem?_append_right (by rw [s1.len]; exact Nat.le_refl _), s1.len]
      simp
    · exact h2.elim
/-- a list that changes no more -/
theorem r_frz (ha : PEm cl W' F X a ma) : PEm cl W' F X a (.frz ma) := weak ha fun σ H Q ⟨τ, S, φ, l, sr, h⟩ => by
  simp only [ev] at h
  refine ⟨τ, S, φ, l, sr, h.step fun w S1 φ1 v H1 _ n1 s1 r1 h1 => ?_⟩
  cases w with
  | d x => exact h1.now s1 r1
  | ref n =>
    obtain ⟨a, ea, rfl⟩ := r1
    dsimp only at h1
    cases q : S1[n]? with
    | none => rw [q] at h1; exact h1.elim
    | some ob =>
      rw [q] at h1
      cases ob with
      | dl xs =>
        obtain ⟨s2, n2⟩ := s1.freeze ea q
        have hn : n < S1.length := (List.getElem?_eq_some_iff.mp q).1
        exact h1 _ _ _ n2 s2 (s2.frozen (n := n) ea (by rw [List.getElem?_set]; simp [hn]))
      | fz xs => exact h1.now s1 (s1.frozen ea q)
      | _ => exact False.elim h1
end
end Ft
namespace Ft
variable [Wd]
open PySem PySem.Spec L2
theorem items_rel {K : PySem.W.Frag} {φ : Ms} {H : Hp} {xs : List D} {v : V} {x : D} (r : DR K φ H v x) (h : dSeq x = some xs) : ∃ a vs, v = .ref a ∧ (SqT K H a vs ∨ SqL K H a vs) ∧ DRs K φ H vs xs := by
  have r' : Dp K (hid φ H) v x := r
  cases r' with
  | lst h1 h2 => cases h; exact ⟨_, _, rfl, .inr (seqL_mono low h1), h2⟩
  | tup h1 h2 => cases h; exact ⟨_, _, rfl, .inl (seqT_mono low h1), h2⟩
  | _ => cases h
theorem wrs_of {K : PySem.W.Frag} {φ : Ms} {H : Hp} : ∀ {xs : List D} {vs : List V}, DRs K φ H vs xs → WRs K φ H (xs.map W.d) vs
  | [], _, h => by cases h; exact .nil
  | _ :: _, _, h => by
    cases h with
    | cons h1 h2 => exact .cons h1 (wrs_of h2)
theorem wrs_app {K : PySem.W.Frag} {φ : Ms} {H : Hp} {ws us : List W} {vs zs : List V} (h : WRs K φ H ws vs) (g : WRs K φ H us zs) : WRs K φ H (ws ++ us) (vs ++ zs) := by
  induction h with
  | nil => exact g
  | cons h1 _ ih => exact .cons h1 ih
theorem wrs_get {K : PySem.W.Frag} {φ : Ms} {H : Hp} {ws : List W} {vs : List V} (h : WRs K φ H ws vs) : ∀ {i : Nat} {w : W}, ws[i]? = some w → ∃ v, vs[i]? = some v ∧ WR K φ H w v := by
  induction h with
  | nil => intro i w e; simp at e
  | @cons w0 v0 ws vs h1 _ ih =>
    intro i w e
    cases i with
    | zero =>
      simp at e
      subst e
      exact ⟨_, rfl, h1⟩
    | succ i =>
      obtain ⟨v, a, b⟩ := ih (i := i) (w := w) (by simpa using e)
      exact ⟨v, by simpa using a, b⟩
section
variable {cl : Nat → Addr} {W' : WX} {F : Fs} {X : Cx} {a b c : Expr} {ma mb mc : Ex} {pos : Pos}
theorem ra_star {e : Expr} {es : List Expr} {m : Ex} {ms : Exs} {p : Pos} (he : PEm cl W' F X e m) (hr : PAm cl W' F X es ms) (hs : starEach (.Starred e p :: es) X.env = (true, eval e X.env) :: starEach es X.env) : PAm cl W' F X (.Starred e p :: es) (.star m ms) := weakA (StX.pa_star he hr hs) fun σ H Q ⟨τ, S, φ, l, sr, h⟩ => by
  simp only [evs] at h
  refine ⟨τ, S, φ, l, sr, h.step fun w S1 φ1 v H1 _ n1 s1 r1 h1 => ?_⟩
  cases w with
  | ref n => exact (show False from h1).elim
  | d x =>
    dsimp only at h1
    cases q : dSeq x with
    | none => rw [q] at h1; exact h1.elim
    | some xs =>
      rw [q] at h1
      obtain ⟨a, vs, rfl, hs, rs⟩ := items_rel r1 q
      refine ⟨a, vs, rfl, hs, τ, S1, φ1, l.mono n1, s1, h1.step fun ws S2 φ2 us H2 _ n2 s2 r2 h2 => ?_⟩
      exact h2.now s2 (wrs_app (wrs_of (dps_mono n2.same rs)) r2)
theorem r_sub (ha : PEm cl W' F X a ma) (hb : PEm cl W' F X b mb) (hs : PlainIx b) : PEm cl W' F X (.Subscript a b pos) (.sub ma mb) := weak (pe_ix ix_seq ha hb hs) fun σ H Q ⟨τ, S, φ, l, sr, h⟩ => by
  simp only [ev] at h
  refine ⟨τ, S, φ, l, sr, h.step fun w S1 φ1 v H1 _ n1 s1 r1 h1 => ?_⟩
  refine ⟨τ, S1, φ1, l.mono n1, s1, h1.step fun u S2 φ2 v2 H2 _ n2 s2 r2 h2 => ?_⟩
  cases q : asData S2 w with
  | none => rw [q] at h2; exact h2.elim
  | some x =>
    rw [q] at h2
    cases u with
    | ref n => exact (show False from h2).elim
    | d y =>
      obtain ⟨z, ez, k⟩ := Out.opt h2 s2
      have list : ∀ p vs xs, v = .ref p → x = .list xs → SqL X.K H2 p vs → DRs X.K φ2 H2 vs xs → rIx X.K v v2 H2 Q := fun p vs xs e1 e2 e3 e4 => by
        subst e1 e2
        cases r2 with
        | int i =>
          obtain ⟨u, e5, r5⟩ := dps_at e4 (show atI xs i = some z from ez)
          exact .inl ⟨p, vs, i, u, rfl, rfl, e3, e5, k u H2 (Same.refl _) r5⟩
        | _ => cases ez
      rcases asData_at s2 (r1.mono n2) q with d | ⟨p, vs, xs, e1, e2, e3, e4⟩
      · cases d with
        | lst g1 g2 => exact list _ _ _ rfl rfl (seqL_mono low g1) g2
        | tup g1 g2 =>
          cases r2 with
          | int i =>
            obtain ⟨u, e5, r5⟩ := dps_at g2 (show atI _ i = some z from ez)
            exact .inr (.inl ⟨_, _, i, u, rfl, rfl, seqT_mono low g1, e5, k u H2 (Same.refl _) r5⟩)
          | _ => cases ez
        | str t =>
          cases r2 with
          | int i =>
            have ez : (if t.length ≤ sizeLine then (atI t.cps.toList i).map fun c => PyData.str ⟨#[c]⟩ else none) = some z := ez
            split at ez
            · cases qc : atI t.cps.toList i with
              | none => rw [qc] at ez; cases ez
              | some c =>
                rw [qc] at ez
                cases ez
                exact .inr (.inr ⟨t, i, c, rfl, rfl, by assumption, qc, k _ H2 (Same.refl _) (.str _)⟩)
            · cases ez
          | _ => cases ez
        | _ => cases r2 <;> cases ez
      · exact list p vs xs e1 e2 (.inl (.inl e3)) e4
def rPart (x : V) (lo hi : Option Int) (H : Hp) (Q : VK) (K : PySem.W.Frag) : Prop := (rSlL K x lo hi H Q ∨ rSlA K x lo hi H Q) ∨ rSlS x lo hi H Q
theorem slR (K : Cx) : SlR K (fun x lo hi H Q => rPart x lo hi H Q K.K) := (sl_list.or sl_tupA).or sl_str
theorem sl_read {K : PySem.W.Frag} {φ : Ms} {H : Hp} {S : Sto} {w : W} {v : V} {x z : D} {lo hi : Option Int} {Q : VK} (s : SR K φ H S) (r : WR K φ H w v) (q : asData S w = some x) (ez : dSlice x lo hi = some z)
    (k : ∀ v H', Same H H' → DR K φ H' v z → Q v H') : rPart v lo hi H Q K := by
  have list : ∀ p vs xs, v = .ref p → x = .list xs → SqL K H p vs → DRs K φ H vs xs → rPart v lo hi H Q K := fun p vs xs e1 e2 e3 e4 => by
    subst e1 e2
    cases ez
    refine .inl (.inl ⟨p, vs, rfl, e3, fun p' hp => ?_⟩)
    refine k _ _ (same_new hp) (.lst (SqL.of (hid_of (fun m => s.there _ m hp) upd_same)) ?_)
    have e := dps_len e4
    unfold cut L2.cutV
    rw [e]
    exact dps_mono (s.keep (same_new hp)).2.same (dps_take _ (dps_drop _ e4))
  rcases asData_at s r q with d | ⟨p, vs, xs, e1, e2, e3, e4⟩
  · cases d with
    | lst h1 h2 => exact list _ _ _ rfl rfl (seqL_mono low h1) h2
    | @tup a vs ds h1 h2 =>
      cases ez
      have e := dps_len h2
      refine .inl (.inr ⟨_, _, rfl, seqT_mono low h1, fun z => ?_, fun z p' hp => ?_⟩)
      · refine k _ H (Same.refl _) ?_
        rw [e] at z
        have : cut ds lo hi = ds := by
          unfold cut
          rw [z.1, z.2]
          simp
        rw [this]
        exact .tup h1 h2
      · refine k _ _ (same_new hp) (.tup (SqT.of (hid_of (fun m => s.there _ m hp) upd_same)) ?_)
        unfold cut L2.cutV
        rw [e]
        exact dps_mono (s.keep (same_new hp)).2.same (dps_take _ (dps_drop _ h2))
    | str t =>
      have ez : (if t.length ≤ sizeLine then some (PyData.str (L2.cutS t lo hi)) else none) = some z := ez
      split at ez
      · cases ez
        exact .inr ⟨t, rfl, by assumption, k _ H (Same.refl _) (.str _)⟩
      · cases ez
    | _ => cases ez
  · exact list p vs xs e1 e2 (.inl (.inl e3)) e4
theorem part_int {K : PySem.W.Frag} {φ : Ms} {H : Hp} {w : W} {v : V} {i : Int} (r : WR K φ H w v) (h : part w = some i) : v = .int i := by
  cases w with
  | ref n => cases h
  | d x =>
    have r' : Dp K (hid φ H) v x := r
    cases r' with
    | int j => cases h; rfl
    | _ => cases h
theorem r_slice {lo hi : Expr} {ml mh : Ex} {p2 : Pos} (ha : PEm cl W' F X a ma) (hl : PEm cl W' F X lo ml) (hh : PEm cl W' F X hi mh) : PEm cl W' F X (.Subscript a (.Slice (some lo) (some hi) none p2) pos) (.slice ma ml mh) := weak (pe_slice (slR X) ha (po_some hl) (po_some hh)) fun σ H Q ⟨τ, S, φ, l, sr, h⟩ => by
  simp only [ev] at h
  refine ⟨τ, S, φ, l, sr, h.step fun w S1 φ1 v H1 _ n1 s1 r1 h1 => ?_⟩
  refine ⟨τ, S1, φ1, l.mono n1, s1, h1.step fun u S2 φ2 v2 H2 _ n2 s2 r2 h2 => ?_⟩
  cases qb : part u with
  | none => rw [qb] at h2; exact h2.elim
  | some i =>
    rw [qb] at h2
    refine ⟨i, part_int r2 qb, τ, S2, φ2, (l.mono n1).mono n2, s2, h2.step fun t S3 φ3 v3 H3 _ n3 s3 r3 h3 => ?_⟩
    cases qa : asData S3 w with
    | none => rw [qa] at h3; exact h3.elim
    | some x =>
      cases qc : part t with
      | none => rw [qa, qc] at h3; exact h3.elim
      | some j =>
        rw [qa, qc] at h3
        obtain ⟨z, ez, k⟩ := Out.opt h3 s3
        exact ⟨j, part_int r3 qc, sl_read s3 ((r1.mono n2).mono n3) qa ez k⟩
theorem r_sliceL {lo : Expr} {ml : Ex} {p2 : Pos} (ha : PEm cl W' F X a ma) (hl : PEm cl W' F X lo ml) : PEm cl W' F X (.Subscript a (.Slice (some lo) none none p2) pos) (.sliceL ma ml) := weak (pe_slice (slR X) ha (po_some hl) po_none) fun σ H Q ⟨τ, S, φ, l, sr, h⟩ => by
  simp only [ev] at h
  refine ⟨τ, S, φ, l, sr, h.step fun w S1 φ1 v H1 _ n1 s1 r1 h1 => ?_⟩
  refine ⟨τ, S1, φ1, l.mono n1, s1, h1.step fun u S2 φ2 v2 H2 _ n2 s2 r2 h2 => ?_⟩
  cases qa : asData S2 w with
  | none => rw [qa] at h2; exact h2.elim
  | some x =>
    cases qb : part u with
    | none => rw [qa, qb] at h2; exact h2.elim
    | some i =>
      rw [qa, qb] at h2
      obtain ⟨z, ez, k⟩ := Out.opt h2 s2
      exact ⟨i, part_int r2 qb, sl_read s2 (r1.mono n2) qa ez k⟩
theorem r_sliceR {hi : Expr} {mh : Ex} {p2 : Pos} (ha : PEm cl W' F X a ma) (hl : PEm cl W' F X hi mh) : PEm cl W' F X (.Subscript a (.Slice none (some hi) none p2) pos) (.sliceR ma mh) := weak (pe_slice (slR X) ha po_none (po_some hl)) fun σ H Q ⟨τ, S, φ, l, sr, h⟩ => by
  simp only [ev] at h
  refine ⟨τ, S, φ, l, sr, h.step fun w S1 φ1 v H1 _ n1 s1 r1 h1 => ?_⟩
  refine ⟨τ, S1, φ1, l.mono n1, s1, h1.step fun u S2 φ2 v2 H2 _ n2 s2 r2 h2 => ?_⟩
  cases qa : asData S2 w with
  | none => rw [qa] at h2; exact h2.elim
  | some x =>
    cases qb : part u with
    | none => rw [qa, qb] at h2; exact h2.elim
    | some i =>
      rw [qa, qb] at h2
      obtain ⟨z, ez, k⟩ := Out.opt h2 s2
      exact ⟨i, part_int r2 qb, sl_read s2 (r1.mono n2) qa ez k⟩
theorem r_sliceN {p2 : Pos} (ha : PEm cl W' F X a ma) : PEm cl W' F X (.Subscript a (.Slice none none none p2) pos) (.sliceN ma) := weak (pe_slice (slR X) ha po_none po_none) fun σ H Q ⟨τ, S, φ, l, sr, h⟩ => by
  simp only [ev] at h
  refine ⟨τ, S, φ, l, sr, h.step fun w S1 φ1 v H1 _ n1 s1 r1 h1 => ?_⟩
  cases qa : asData S1 w with
  | none => rw [qa] at h1; exact h1.elim
  | some x =>
    rw [qa] at h1
    obtain ⟨z, ez, k⟩ := Out.opt h1 s1
    exact sl_read s1 r1 qa ez k
theorem r_len {x : Str} {p : Pos} (ha : PEm cl W' F X a ma) (hx : x = "len") (hg : Gl X x) (hm : X.mg x = none) (hs : starEach [a] X.env = [(false, eval a X.env)]) : PEm cl W' F X (.Call (.Name x p) [a] [] pos) (.len ma) := by
  subst hx
  refine weak (pe_callB call_len hg hm (by decide +kernel) (pa_cons ha pa_nil hs) (by decide) (by decide) hs rfl) fun σ H Q ⟨τ, S, φ, l, sr, h⟩ => ?_
  simp only [ev] at h
  refine ⟨τ, S, φ, l, sr, h.step fun w S1 φ1 v H1 _ n1 s1 r1 h1 => ?_⟩
  show ∃ x n, [v] = [x] ∧ LenV X.K x H1 n ∧ Q (.int n) H1
  cases qa : asData S1 w with
  | none => rw [qa] at h1; exact h1.elim
  | some x =>
    rw [qa] at h1
    rcases asData_at s1 r1 qa with d | ⟨p, vs, xs, e1, e2, e3, e4⟩
    · cases d with
      | lst g1 g2 =>
        refine ⟨_, _, rfl, .inl ⟨_, seqL_mono low g1, rfl⟩, ?_⟩
        rw [dps_len g2]
        exact h1.now s1 (.int _)
      | tup g1 g2 =>
        refine ⟨_, _, rfl, .inr ⟨_, seqT_mono low g1, rfl⟩, ?_⟩
        rw [dps_len g2]
        exact h1.now s1 (.int _)
      | str t =>
        have h2 : Out cl X.K W' (WR X.K) σ φ1 H1 (if t.length ≤ sizeLine then .ok (.d (.int t.length)) S1 else .no) Q := h1
        split at h2
        · exact ⟨_, _, rfl, ⟨by assumption, rfl⟩, h2.now s1 (.int _)⟩
        · exact h2.elim
      | _ => exact h1.elim
    · subst e1 e2
      refine ⟨_, _, rfl, .inl ⟨_, .inl (.inl e3), rfl⟩, ?_⟩
      rw [dps_len e4]
      exact h1.now s1 (.int _)
theorem opn_read {g : List D → Option D} {r : List V → Hp → VK → Prop} {ms : Exs} (hr : ∀ (φ : Ms) (vs : List V) (H : Hp) (Q : VK), (∃ ds z, DpAll X.K (hid φ H) vs ds ∧ g ds = some z ∧ (∀ a, φ.has a → H a ≠ none) ∧ ∀ v H', Same H H' → Dp X.K (hid φ H') v z → Q v H') → r vs H Q)
    (σ : St) (H : Hp) (Q : VK) (h : rdE cl X.K W' (fun τ S => ev F τ S (.opn g ms)) σ H Q) : tCB r (rdA cl X.K W' fun τ S => evs F τ S ms) σ H Q := by
  obtain ⟨τ, S, φ, l, sr, h⟩ := h
  simp only [ev] at h
  refine ⟨τ, S, φ, l, sr, h.step fun ws S1 φ1 vs H1 _ n1 s1 r1 h1 => ?_⟩
  cases q : datas ws with
  | none => rw [q] at h1; exact h1.elim
  | some xs =>
    rw [q] at h1
    obtain ⟨z, ez, k⟩ := Out.opt h1 s1
    exact hr φ1 vs H1 Q ⟨xs, z, r1.datas q, ez, s1.there, k⟩
theorem r_opnB {g : List D → Option D} {x : Str} {id : String} {p : Pos} {es : List Expr} {ms : Exs} (hc : CallD X (.builtin id) g) (hg : Gl X x) (hm : X.mg x = none) (hv : bootBuiltins x = some (.builtin id)) (ha : PAm cl W' F X (a :: es) ms) (hn : x ≠ "__name__") (hdb : (x == ("__debug__" : Str)) = false)
    (he : starEach (a :: es) X.env = (false, eval a X.env) :: starEach es X.env) (hpl : (backTo pos (starEach es X.env)).any (·.1) = false) : PEm cl W' F X (.Call (.Name x p) (a :: es) [] pos) (.opn g ms) :=
  weak (pe_callB (r := fun vs H Q => ∃ φ : Ms, ∃ ds z, DpAll X.K (hid φ H) vs ds ∧ g ds = some z ∧ (∀ a, φ.has a → H a ≠ none) ∧ ∀ v H', Same H H' → Dp X.K (hid φ H') v z → Q v H') (fun pins s σ H xs us Q I r ⟨φ, z⟩ => hc φ pins s σ H xs us Q I r z) hg hm hv ha hn hdb he hpl) (opn_read fun φ vs H Q z => ⟨φ, z⟩)
theorem r_opnT {g : List D → Option D} {x : Str} {T : String} {p : Pos} {es : List Expr} {ms : Exs} (hc : CallD X (.type T) g) (hg : Gl X x) (hm : X.mg x = none) (hv : bootBuiltins x = some (.type T)) (ha : PAm cl W' F X (a :: es) ms) (hn : x ≠ "__name__") (hdb : (x == ("__debug__" : Str)) = false)
    (he : starEach (a :: es) X.env = (false, eval a X.env) :: starEach es X.env) (hpl : (backTo pos (starEach es X.env)).any (·.1) = false) : PEm cl W' F X (.Call (.Name x p) (a :: es) [] pos) (.opn g ms) :=
  weak (pe_callTy (r := fun vs H Q => ∃ φ : Ms, ∃ ds z, DpAll X.K (hid φ H) vs ds ∧ g ds = some z ∧ (∀ a, φ.has a → H a ≠ none) ∧ ∀ v H', Same H H' → Dp X.K (hid φ H') v z → Q v H') (fun pins s σ H xs us Q I r ⟨φ, z⟩ => hc φ pins s σ H xs us Q I r z) hg hm hv ha hn hdb he hpl) (opn_read fun φ vs H Q z => ⟨φ, z⟩)
/-- a def at f, called with values -/
def CallsTo (cl : Nat → Addr) (W' : WX) (F : Fs) (X : Cx) (f : Addr) (ks : List Str) (g : List W → Option (List W)) (i : Nat) : Prop :=
  ∀ (pins : List (Addr × Obj)) (s : Shared) (σ : St) (H : Hp) (us uk : List Value) (vs vk : List V) (ws wk wz : List W) (S : Sto) (φ : Ms) (Q : VK), L2.Inv X pins σ H s → Vals vs us → Vals vk uk → uk.length = ks.length → WRs X.K φ H ws vs → WRs X.K φ H wk vk → SR X.K φ H S →
    g (ws ++ wk) = some wz → Out cl X.K W' (WR X.K) σ φ H (F i wz S) Q → wpAny (model X.prog X.w) X.A (call (.ref f) us (ks.zip uk)) (EP X pins σ Q) X.xe s
theorem r_call {x : Str} {f : Addr} {i : Nat} {p : Pos} {es : List Expr} {ms : Exs} (hf : CallsTo cl W' F X f [] some i) (hg : Gl X x) (hm : X.mg x = some (.ref f)) (hk : PySem.W.keepIn X.K (.ref f) = true) (ha : PAm cl W' F X (a :: es) ms) (hdb : (x == ("__debug__" : Str)) = false)
    (he : starEach (a :: es) X.env = (false, eval a X.env) :: starEach es X.env) (hpl : (backTo pos (starEach es X.env)).any (·.1) = false) : PEm cl W' F X (.Call (.Name x p) (a :: es) [] pos) (.call i ms) := by
  refine ⟨fun pins s σ H Q I ⟨τ, S, φ, l, sr, h⟩ => ?_⟩
  simp only [ev] at h
  refine wpAny_Call_Name_kw (ld_glob I hg hm ?_ hdb)
  refine PySem.W.callWith_K (h₀ := X.base) I.ok.mod.kin hk (thn (ha.run pos pins s σ H (fun vs H1 => ∃ ws S1 φ1, WRs X.K φ1 H1 ws vs ∧ SR X.K φ1 H1 S1 ∧ Out cl X.K W' (WR X.K) σ φ1 H1 (F i ws S1) Q) I ⟨τ, S, φ, l, sr, h.step fun ws S1 φ1 vs H1 _ n1 s1 r1 h1 => ⟨ws, S1, φ1, r1, s1, h1⟩⟩) fun us s1 ⟨vs, H1, I1, r, ws, S1, φ1, rw, sr1, q⟩ => ⟨I1.kIn, ?_⟩) he hpl
  exact hf pins s1 σ H1 us [] vs [] ws [] ws S1 φ1 Q I1 r .nil rfl rw .nil sr1 (by simp) q
theorem r_call0 {x : Str} {f : Addr} {i : Nat} {p : Pos} (hf : CallsTo cl W' F X f [] some i) (hg : Gl X x) (hm : X.mg x = some (.ref f)) (hk : PySem.W.keepIn X.K (.ref f) = true) (hdb : (x == ("__debug__" : Str)) = false) : PEm cl W' F X (.Call (.Name x p) [] [] pos) (.call i .nil) := by
  refine ⟨fun pins s σ H Q I ⟨τ, S, φ, l, sr, h⟩ => ?_⟩
  simp only [ev, evs, Res.bind_ok] at h
  refine wpAny_Call_Name_kw (ld_glob I hg hm ?_ hdb)
  exact PySem.W.callWith_K0 I.kIn hk (hf pins s σ H [] [] [] [] [] [] [] S φ Q I .nil .nil rfl .nil .nil sr (by simp) h)
end
end Ft
namespace Ft
variable [Wd]
open PySem PySem.Spec L2
section
variable {cl : Nat → Addr} {W' : WX} {F : Fs} {X : Cx} {a b c : Expr} {ma mb mc : Ex} {pos : Pos}
theorem rk_nil : PKm cl W' F X [] .nil := ⟨fun ps pins s σ H Q I ⟨τ, S, φ, l, sr, h⟩ => by
  simp only [evs] at h
  exact pk_nil.run ps pins s σ H Q I (h.now sr .nil)⟩
theorem rk_cons {nm : Option Str} {kpos : Pos} {kws : List Keyword} {m : Ex} {ms : Exs} (he : PEm cl W' F X a m) (hr : PKm cl W' F X kws ms) : PKm cl W' F X (⟨nm, a, kpos⟩ :: kws) (.cons m ms) := ⟨fun ps pins s σ H Q I ⟨τ, S, φ, l, sr, h⟩ => by
  simp only [evs] at h
  refine (pk_cons he hr).run ps pins s σ H Q I ⟨τ, S, φ, l, sr, h.step fun w S1 φ1 v H1 _ n1 s1 r1 h1 => ?_⟩
  refine ⟨τ, S1, φ1, l.mono n1, s1, h1.step fun ws S2 φ2 vs H2 _ n2 s2 r2 h2 => ?_⟩
  exact h2.now s2 (.cons (r1.mono n2) r2)⟩
theorem r_callk {x : Str} {f : Addr} {i : Nat} {p : Pos} {es : List Expr} {kws : List Keyword} {ks : List Str} {ms mk : Exs} {perm : List Nat} (hf : CallsTo cl W' F X f ks (fun ws => pickx ws perm) i) (hg : Gl X x) (hm : X.mg x = some (.ref f)) (hk : PySem.W.keepIn X.K (.ref f) = true)
    (ha : PAm cl W' F X (a :: es) ms) (hkw : PKm cl W' F X kws mk) (hall : (backToKw pos (keywordEach kws X.env)).all (·.1.isSome) = true) (hks : (backToKw pos (keywordEach kws X.env)).filterMap (·.1) = ks) (hkl : kws.length = ks.length) (hdb : (x == ("__debug__" : Str)) = false)
    (he : starEach (a :: es) X.env = (false, eval a X.env) :: starEach es X.env) (hpl : ((backTo pos (starEach (a :: es) X.env)).any (·.1) || (backToKw pos (keywordEach kws X.env)).any (·.1.isNone)) = false) (hlen : ∀ {τ S ws S'}, evs F τ S mk = .ok ws S' → ws.length = kws.length) : PEm cl W' F X (.Call (.Name x p) (a :: es) kws pos) (.callk i ms mk perm) := by
  refine ⟨fun pins s σ H Q I ⟨τ, S, φ, l, sr, h⟩ => ?_⟩
  simp only [ev] at h
  refine wpAny_Call_Name_kw (ld_glob I hg hm ?_ hdb)
  refine PySem.W.callWith_KW (h₀ := X.base) I.ok.mod.kin hk hall (thn (ha.run pos pins s σ H (fun vs H1 => ∃ ws S1 φ1, LR X.K φ1 H1 τ σ ∧ WRs X.K φ1 H1 ws vs ∧ SR X.K φ1 H1 S1 ∧ Out cl X.K W' (WR X.K) σ φ1 H1 ((evs F τ S1 mk).bind fun wk S2 => match pickx (ws ++ wk) perm with
    | some us => F i us S2
    | none => .no) Q) I ⟨τ, S, φ, l, sr, h.step fun ws S1 φ1 vs H1 _ n1 s1 r1 h1 => ⟨ws, S1, φ1, l.mono n1, r1, s1, h1⟩⟩) fun us s1 ⟨vs, H1, I1, r, ws, S1, φ1, l1, rw, sr1, q⟩ => ?_) hpl he
  refine thn (hkw.run pos pins s1 σ H1 (fun vk H2 => ∃ wk S2 φ2, wk.length = kws.length ∧ WRs X.K φ2 H2 ws vs ∧ WRs X.K φ2 H2 wk vk ∧ SR X.K φ2 H2 S2 ∧ Out cl X.K W' (WR X.K) σ φ2 H2 (match pickx (ws ++ wk) perm with
    | some us => F i us S2
    | none => .no) Q) I1 ⟨τ, S1, φ1, l1, sr1, q.step fun wk S2 φ2 vk H2 e2 n2 s2 r2 h2 => ⟨wk, S2, φ2, hlen e2, rw.mono n2, r2, s2, h2⟩⟩) fun uk s2 ⟨vk, H2, I2, r2, wk, S2, φ2, el, rw1, rw2, sr2, q2⟩ => ⟨I2.kIn, ?_⟩
  rw [hks]
  cases e : pickx (ws ++ wk) perm with
  | none => rw [e] at q2; exact q2.elim
  | some wz =>
    rw [e] at q2
    exact hf pins s2 σ H2 us uk vs vk ws wk wz S2 φ2 Q I2 r r2 (by rw [← r2.length, ← rw2.len, el, hkl]) rw1 rw2 sr2 e q2
theorem r_callk0 {x : Str} {f : Addr} {i : Nat} {p : Pos} {kws : List Keyword} {ks : List Str} {mk : Exs} {perm : List Nat} (hf : CallsTo cl W' F X f ks (fun ws => pickx ws perm) i) (hg : Gl X x) (hm : X.mg x = some (.ref f)) (hk : PySem.W.keepIn X.K (.ref f) = true)
    (hkw : PKm cl W' F X kws mk) (hall : (backToKw pos (keywordEach kws X.env)).all (·.1.isSome) = true) (hks : (backToKw pos (keywordEach kws X.env)).filterMap (·.1) = ks) (hkl : kws.length = ks.length) (hdb : (x == ("__debug__" : Str)) = false)
    (hpl : ((backTo pos (starEach [] X.env)).any (·.1) || (backToKw pos (keywordEach kws X.env)).any (·.1.isNone)) = false) (hlen : ∀ {τ S ws S'}, evs F τ S mk = .ok ws S' → ws.length = kws.length) : PEm cl W' F X (.Call (.Name x p) [] kws pos) (.callk i .nil mk perm) := by
  refine ⟨fun pins s σ H Q I ⟨τ, S, φ, l, sr, h⟩ => ?_⟩
  simp only [ev, evs, Res.bind_ok, List.nil_append] at h
  refine wpAny_Call_Name_kw (ld_glob I hg hm ?_ hdb)
  refine PySem.W.callWith_KW0 (h₀ := X.base) I.ok.mod.kin hk hall ?_ hpl
  refine thn (hkw.run pos pins s σ H (fun vk H2 => ∃ wk S2 φ2, wk.length = kws.length ∧ WRs X.K φ2 H2 wk vk ∧ SR X.K φ2 H2 S2 ∧ Out cl X.K W' (WR X.K) σ φ2 H2 (match pickx wk perm with
    | some us => F i us S2
    | none => .no) Q) I ⟨τ, S, φ, l, sr, h.step fun wk S2 φ2 vk H2 e2 n2 s2 r2 h2 => ⟨wk, S2, φ2, hlen e2, r2, s2, h2⟩⟩) fun uk s2 ⟨vk, H2, I2, r2, wk, S2, φ2, el, rw2, sr2, q2⟩ => ⟨I2.kIn, ?_⟩
  rw [hks]
  cases e : pickx wk perm with
  | none => rw [e] at q2; exact q2.elim
  | some wz =>
    rw [e] at q2
    exact hf pins s2 σ H2 [] uk [] vk [] wk wz S2 φ2 Q I2 .nil r2 (by rw [← r2.length, ← rw2.len, el, hkl]) .nil rw2 sr2 e q2
/-- a text's method -/
def MtS (X : Cx) (id : String) (g : Str → List D → Option D) : Prop := ∀ φ : Ms, MtR X id (fun x xs H Q => ∃ s ds z, x = .str s ∧ DpAll X.K (hid φ H) xs ds ∧ g s ds = some z ∧ (∀ a, φ.has a → H a ≠ none) ∧ ∀ v H', Same H H' → Dp X.K (hid φ H') v z → Q v H')
/-- a list's method: read, changed -/
def MtL (X : Cx) (id : String) (g : List D → List D → Option D) : Prop := ∀ φ : Ms, MtR X id (fun x xs H Q => ∃ p vs ys ds z, x = .ref p ∧ SqL X.K H p vs ∧ DpAll X.K (hid φ H) vs ys ∧ DpAll X.K (hid φ H) xs ds ∧ g ys ds = some z ∧ (∀ a, φ.has a → H a ≠ none) ∧ ∀ v H', Same H H' → Dp X.K (hid φ H') v z → Q v H')
def MtW (X : Cx) (id : String) (g : List D → List D → Option (D × List D)) : Prop := ∀ φ : Ms, MtR X id (fun x xs H Q => ∃ p vs ys ds u zs, x = .ref p ∧ H p = some (.lst vs) ∧ DpAll X.K (hid φ H) vs ys ∧ DpAll X.K (hid φ H) xs ds ∧ g ys ds = some (u, zs) ∧ ∀ v us, Dp X.K (hid φ H) v u → DpAll X.K (hid φ H) us zs → Q v (upd H p (.lst us)))
theorem r_mstr {g : Str → List D → Option D} {o : Expr} {mo : Ex} {es : List Expr} {ms : Exs} {name : Str} {id : String} {apos : Pos} (pa : PlainAttrs "str") (slot : Slot "str" name id) (hty : typeOf (.builtin id) = pure (.type "method_descriptor")) (hm : MtS X id g) (ho : PEm cl W' F X o mo) (ha : PAm cl W' F X (a :: es) ms)
    (hbase : attributeBase o name X.env (eval o X.env) = eval o X.env)
    (hfew : ((backTo pos (starEach (a :: es) X.env)).all (fun x => !x.1) && (backToKw pos (keywordEach [] X.env)).all (fun x => x.1.isSome)
      && decide ((a :: es).length + ([] : List Keyword).length + (if ([] : List Keyword).isEmpty then 0 else 1) < 30)) = true)
    (hline : (apos.endLine == pos.line) = true) (hs : starEach (a :: es) X.env = (false, eval a X.env) :: starEach es X.env) (hplain : (backTo pos (starEach es X.env)).any (·.1) = false) : PEm cl W' F X (.Call (.Attribute o name apos) (a :: es) [] pos) (.mstr g mo ms) := by
  refine weak (pe_bm (r := fun x xs H Q => ∃ φ : Ms, ∃ s ds z, x = .str s ∧ DpAll X.K (hid φ H) xs ds ∧ g s ds = some z ∧ (∀ a, φ.has a → H a ≠ none) ∧ ∀ v H', Same H H' → Dp X.K (hid φ H') v z → Q v H') pa slot hty (fun pins s σ H x xs v us Q I rx rs ⟨φ, z⟩ => hm φ pins s σ H x xs v us Q I rx rs z) ho ha hbase hfew hline hs hplain) fun σ H Q ⟨τ, S, φ, l, sr, h⟩ => ?_
  simp only [ev] at h
  refine ⟨τ, S, φ, l, sr, h.step fun w S1 φ1 v H1 _ n1 s1 r1 h1 => ?_⟩
  cases w with
  | ref n => exact (show False from h1).elim
  | d x =>
    have r1' : Dp X.K (hid φ1 H1) v x := r1
    cases r1' with
    | str t =>
      refine ⟨rfl, τ, S1, φ1, l.mono n1, s1, Out.step h1 fun ws S2 φ2 vs H2 _ n2 s2 r2 h2 => ?_⟩
      cases q : datas ws with
      | none => rw [q] at h2; exact h2.elim
      | some xs =>
        rw [q] at h2
        obtain ⟨z, ez, k⟩ := Out.opt h2 s2
        exact ⟨φ2, t, xs, z, rfl, r2.datas q, ez, s2.there, k⟩
    | _ => exact (show False from h1).elim
theorem r_mstr0 {g : Str → List D → Option D} {o : Expr} {mo : Ex} {name : Str} {id : String} {apos : Pos} (pa : PlainAttrs "str") (slot : Slot "str" name id) (hty : typeOf (.builtin id) = pure (.type "method_descriptor")) (hm : MtS X id g) (ho : PEm cl W' F X o mo)
    (hbase : attributeBase o name X.env (eval o X.env) = eval o X.env) (hline : (apos.endLine == pos.line) = true) : PEm cl W' F X (.Call (.Attribute o name apos) [] [] pos) (.mstr g mo .nil) := by
  refine weak (pe_bm0 (r := fun x xs H Q => ∃ φ : Ms, ∃ s ds z, x = .str s ∧ DpAll X.K (hid φ H) xs ds ∧ g s ds = some z ∧ (∀ a, φ.has a → H a ≠ none) ∧ ∀ v H', Same H H' → Dp X.K (hid φ H') v z → Q v H') pa slot hty (fun pins s σ H x xs v us Q I rx rs ⟨φ, z⟩ => hm φ pins s σ H x xs v us Q I rx rs z) ho hbase hline) fun σ H Q ⟨τ, S, φ, l, sr, h⟩ => ?_
  simp only [ev, evs, Res.bind_ok, datas] at h
  refine ⟨τ, S, φ, l, sr, h.step fun w S1 φ1 v H1 _ n1 s1 r1 h1 => ?_⟩
  cases w with
  | ref n => exact (show False from h1).elim
  | d x =>
    have r1' : Dp X.K (hid φ1 H1) v x := r1
    cases r1' with
    | str t =>
      obtain ⟨z, ez, k⟩ := Out.opt h1 s1
      exact ⟨rfl, φ1, t, [], z, rfl, .nil, ez, s1.there, k⟩
    | _ => exact (show False from h1).elim
/-- a list's method with arguments -/
theorem r_mlst {gd : List D → List D → Option D} {gs : List D → List D → Option (D × List D)} {o : Expr} {mo : Ex} {es : List Expr} {ms : Exs} {name : Str} {id : String} {apos : Pos} (pa : PlainAttrs "list") (slot : Slot "list" name id) (hty : typeOf (.builtin id) = pure (.type "method_descriptor")) (hm : MtL X id gd) (hw : MtW X id gs)
    (ho : PEm cl W' F X o mo) (ha : PAm cl W' F X (a :: es) ms) (hbase : attributeBase o name X.env (eval o X.env) = eval o X.env)
    (hfew : ((backTo pos (starEach (a :: es) X.env)).all (fun x => !x.1) && (backToKw pos (keywordEach [] X.env)).all (fun x => x.1.isSome)
      && decide ((a :: es).length + ([] : List Keyword).length + (if ([] : List Keyword).isEmpty then 0 else 1) < 30)) = true)
    (hline : (apos.endLine == pos.line) = true) (hs : starEach (a :: es) X.env = (false, eval a X.env) :: starEach es X.env) (hplain : (backTo pos (starEach es X.env)).any (·.1) = false) : PEm cl W' F X (.Call (.Attribute o name apos) (a :: es) [] pos) (.mlst gd gs mo ms) := by
  let R := fun (x : V) (xs : List V) (H : Hp) (Q : VK) => (∃ φ : Ms, ∃ p vs ys ds z, x = .ref p ∧ SqL X.K H p vs ∧ DpAll X.K (hid φ H) vs ys ∧ DpAll X.K (hid φ H) xs ds ∧ gd ys ds = some z ∧ (∀ a, φ.has a → H a ≠ none) ∧ ∀ v H', Same H H' → Dp X.K (hid φ H') v z → Q v H') ∨
    ∃ φ : Ms, ∃ p vs ys ds u zs, x = .ref p ∧ H p = some (.lst vs) ∧ DpAll X.K (hid φ H) vs ys ∧ DpAll X.K (hid φ H) xs ds ∧ gs ys ds = some (u, zs) ∧ ∀ v us, Dp X.K (hid φ H) v u → DpAll X.K (hid φ H) us zs → Q v (upd H p (.lst us))
  refine weak (pe_bm (r := R) pa slot hty (fun pins s σ H x xs v us Q I rx rs z => z.elim (fun ⟨φ, z⟩ => hm φ pins s σ H x xs v us Q I rx rs z) fun ⟨φ, z⟩ => hw φ pins s σ H x xs v us Q I rx rs z) ho ha hbase hfew hline hs hplain) fun σ H Q ⟨τ, S, φ, l, sr, h⟩ => ?_
  simp only [ev] at h
  refine ⟨τ, S, φ, l, sr, h.step fun w S1 φ1 v H1 _ n1 s1 r1 h1 => ?_⟩
  cases w with
  | ref n =>
    have r1c := r1
    obtain ⟨p, ep, rfl⟩ := r1c
    dsimp only at h1
    cases qn : S1[n]? with
    | none => rw [qn] at h1; exact h1.elim
    | some ob =>
      rw [qn] at h1
      cases ob with
      | dl ys0 =>
        obtain ⟨_, vs0, e0, _⟩ := s1.at_ n _ p qn ep
        refine ⟨.inl ⟨rfl, vs0, .inl (.inl e0)⟩, τ, S1, φ1, l.mono n1, s1, Out.step h1 fun ws S2 φ2 vs H2 _ n2 s2 r2 h2 => ?_⟩
        cases qn2 : S2[n]? with
        | none => rw [qn2] at h2; exact h2.elim
        | some ob2 =>
          rw [qn2] at h2
          obtain ⟨p2, ep2, e3⟩ := r1.mono n2
          cases e3
          cases ob2 with
          | dl ys =>
            cases qd : datas ws with
            | none => rw [qd] at h2; exact h2.elim
            | some xs =>
              rw [qd] at h2
              dsimp only at h2
              cases qg : gs ys xs with
              | none => rw [qg] at h2; exact h2.elim
              | some r =>
                obtain ⟨u, zs⟩ := r
                rw [qg] at h2
                obtain ⟨nf, us0, e4, e5⟩ := s2.at_ n _ p qn2 ep2
                refine .inr ⟨φ2, p, us0, ys, xs, u, zs, rfl, e4, e5, r2.datas qd, qg, fun v us ru rz => ?_⟩
                have sm : Same (hid φ2 H2) (hid φ2 (upd H2 p (.lst us))) := fun b o e => by
                  obtain ⟨z1, z2⟩ := hid_some e
                  refine hid_of z1 ?_
                  rw [upd_ne (fun z => z1 (.inl (by rw [z]; exact ⟨List.mem_of_getElem? ep2, nf⟩)))]
                  exact z2
                obtain ⟨s3, n3⟩ := s2.put ep2 nf (o := .lst us) (ob := .dl zs) ⟨nf, us, upd_same, dps_mono sm rz⟩
                exact h2 φ2 v _ n3 s3 (dp_mono sm ru)
          | _ => exact (show False from h2).elim
      | _ => exact (show False from h1).elim
  | d x =>
    have r1' : Dp X.K (hid φ1 H1) v x := r1
    cases r1' with
    | lst g1 g2 =>
      refine ⟨.inl ⟨rfl, _, seqL_mono low g1⟩, τ, S1, φ1, l.mono n1, s1, Out.step h1 fun ws S2 φ2 vs H2 _ n2 s2 r2 h2 => ?_⟩
      cases q : datas ws with
      | none => rw [q] at h2; exact h2.elim
      | some xs =>
        rw [q] at h2
        obtain ⟨z, ez, k⟩ := Out.opt h2 s2
        exact .inl ⟨φ2, _, _, _, xs, z, rfl, seqL_mono low (seqL_mono n2.same g1), dps_mono n2.same g2, r2.datas q, ez, s2.there, k⟩
    | _ => exact (show False from h1).elim
end
end Ft
namespace Ft
variable [Wd]
open PySem PySem.Spec L2 PyProof.Rows
set_option maxHeartbeats 1000000 in
theorem meets_enum_one {v : Value} {ob : Obj} {Hs : Heap → Prop} (B : Begins v ob Hs) :
    Meets (Builtin.«enumerate.__new__» ⟨[.type "enumerate", v], []⟩) (fun _ R s => Hs s.heap ∧
      R (.ok (.ret (.ref (s.heap.push ob).objs.size))) { s with
        heap := (s.heap.push ob).push { cls := .type "enumerate", data := .fields #[.none, .bool false, .ref s.heap.objs.size, rawInt 0, .none, .none] } }) :=
  .of_wp fun prog w A R s hh => by
    obtain ⟨hp, gn, dr, tk, os⟩ := s
    obtain ⟨g1, hh⟩ := hh
    have hsub := sub_enumerate
    have q1 : ∀ {A2 : Around} {E2 : Value → Shared → Prop} {Q2 : Value → Shared → Prop}, Q2 (.ref hp.objs.size) ⟨hp.push ob, gn, dr, tk, os⟩ →
        wpAny (model prog w) A2 (pyIter v) Q2 E2 ⟨hp, gn, dr, tk, os⟩ := fun z => B.iter prog w _ _ ⟨hp, gn, dr, tk, os⟩ _ g1 z
    wp_walk using q1
    refine wpAny_stack_any fun sk => wpAny_pure ?_
    split
    · rename_i cc _ _ _ _ _
      cases (cc == Value.type "enumerate") <;>
        (wp_walk using q1
         exact ⟨_, rfl, hh⟩)
    · wp_walk using q1
      exact ⟨_, rfl, hh⟩
theorem enum_one {prog : Program} {w : World} {A : Around} {E : Value → Shared → Prop} {s : Shared} {v : Value} {ob : Obj} {Hs : Heap → Prop} {Q : Value → Shared → Prop} (B : Begins v ob Hs) (h1 : Hs s.heap)
    (hQ : ∀ h2, IsEnum h2 (s.heap.objs.size + 1) s.heap.objs.size 0 .none → h2.get? s.heap.objs.size = some ob → (∀ b o, s.heap.get? b = some o → h2.get? b = some o) →
      Q (.ref (s.heap.objs.size + 1)) { s with heap := h2 }) : wpAny (model prog w) A (call (.type "enumerate") [v]) Q E s := by
  refine callType_new F.called_enumerate (by decide) (F.typeCall_enumerate_1 _) (F.newCall_enumerate_1 _)
    (fun ob2 => F.args_object_init_2 ob2 _) F.entry_enumerate_new (meets_enum_one B) ⟨h1, ?_⟩
  have sz : (s.heap.push ob).objs.size = s.heap.objs.size + 1 := Heap.size_push ..
  show _ ∧ _
  rw [sz]
  let eo : Obj := { cls := .type "enumerate", data := .fields #[.none, .bool false, .ref s.heap.objs.size, rawInt 0, .none, .none] }
  have en : IsEnum ((s.heap.push ob).push eo) (s.heap.objs.size + 1) s.heap.objs.size 0 .none := by
    have q := Heap.get?_push_size (s.heap.push ob) (o := eo) rfl
    rw [sz] at q
    exact q
  exact ⟨⟨_, en, rfl⟩, hQ _ en (Heap.get?_push_of_some _ (Heap.get?_push_size _ B.free)) fun b o z => Heap.get?_push_of_some _ (Heap.get?_push_of_some _ z)⟩
/-- the tuple at a, each item in a new pair with its number -/
def Itn (K : PySem.W.Frag) (a : Addr) : It where
  go := fun i H => ∃ (xs : List V) (x : V), SqT K H a xs ∧ xs[i]? = some x
  yld := fun i H v H' => ∃ T x, v = .ref T ∧ H T = none ∧ H' = upd H T (.tup [.int (i : Nat), x]) ∧ ∀ xs, SqT K H a xs → xs[i]? = some x
  stop := fun i H => ∃ xs : List V, SqT K H a xs ∧ xs.length = i
theorem turn_enumT {P : Program} {w : World} {K : PySem.W.Frag} {elts : List Expr} {kk : Nat} {tpos : Pos} (a e it : Addr) (hat : a ≠ it) (hae : a ≠ e) :
    Turn P w K (.Tuple elts kk tpos) (Itn K a) [e, it] e (fun i h => (∃ old, IsEnum h e it ((i : Nat) : Int) old) ∧ h.IsTupleIter it a i ∧ e ≠ it) where
  mem := by simp
  obj := fun i h st b hb => by
    obtain ⟨⟨old, en⟩, ⟨o, ho, hc, hd⟩, _⟩ := st
    rcases (show b = e ∨ b = it by simpa using hb) with z | z <;> rw [z]
    · exact ⟨_, en, fun v q => nomatch q⟩
    · exact ⟨o, ho, fun v q => by rw [hd] at q; cases q⟩
  keep := fun i h h' st k => let ⟨⟨old, en⟩, hi, ne⟩ := st
    ⟨⟨old, k e (by simp) _ en⟩, hi.at fun o q => k it (by simp) o q, ne⟩
  item := by
    intro X eP eW eK hc i pins s σ H E I hf st hg
    subst eP eW eK
    obtain ⟨⟨old, en⟩, hit, ne⟩ := st
    obtain ⟨xs, x, hq, hx⟩ := hg
    obtain ⟨its, rv, tp, hz⟩ := I.tuple hq
    obtain ⟨u, hu, ru⟩ := rv.get hx
    have le : e < s.heap.objs.size := Heap.lt_size en
    have lt : it < s.heap.objs.size := by
      obtain ⟨_, q, _⟩ := hit
      exact Heap.lt_size q
    have hh : X.A.in1.handled = none := I.ok.hd hc
    have dr := Draws.tuple (prog := X.prog) (w := X.w) (A := X.A.in1) hh it a hat its.toArray
    have ii : i < its.toArray.size := by
      rw [List.size_toArray]
      exact (List.getElem?_eq_some_iff.mp hu).1
    refine wpAny_pyNext_enum_itemD dr en ⟨hit, tp⟩ ii ne (by simp [ne, Ne.symm hae]) fun y h' tk hy ho hst hT hsz hk => ?_
    have ey : y = u := by
      have : its.toArray[i]? = some y := hy
      rw [List.getElem?_toArray, hu] at this
      exact (Option.some.inj this).symm
    subst ey
    refine ⟨_, rfl, wpAny_letOwnedTupleGo_enum (s := { s with heap := h', toks := tk + 1 }) ho fun h2 en2 sb => ?_⟩
    have hT2 : h2.get? s.heap.objs.size = some { cls := .type "tuple", data := .seq #[.int i tk, y] } := (sb.2 _ (Nat.ne_of_gt le)).trans hT
    let np : HO := .tup [.int (i : Nat), x]
    have new : ObjOk X.prog X.w (upd H s.heap.objs.size np) h2 s.heap.objs.size np :=
      ⟨by show 2 ≤ sizeLine; decide, [.int i tk, y], .cons ⟨_, rfl⟩ (.cons ru .nil), ⟨_, hT2, rfl, _, rfl⟩⟩
    have I1 : L2.Inv X pins σ (upd H s.heap.objs.size np) { s with heap := h2, toks := tk + 1 } :=
      I.turnedNew (ch := [e, it]) (fun b ob hb q => (sb.2 b fun z => hb (by simp [z])).trans (hk b ob (fun z => hb (by simp [z])) (fun z => hb (by simp [z])) q)) hf (Nat.le_refl _) new
    refine ⟨.ref s.heap.objs.size, _, I1, rfl, ⟨_, x, rfl, I.hok.fresh (Nat.le_refl _), rfl, fun ys hy => by rw [I.tuple_inj hy hq]; exact hx⟩,
      ⟨⟨y, ?_⟩, hst.1.at fun o q => (sb.2 it (Ne.symm ne)).trans q, ne⟩, fun b hb => ?_⟩
    · rw [show ((i + 1 : Nat) : Int) = (i : Int) + 1 by omega]
      exact en2
    · have : b < s.heap.objs.size := by
        rcases (show b = e ∨ b = it by simpa using hb) with z | z <;> rw [z]
        · exact le
        · exact lt
      rw [upd_ne (Nat.ne_of_lt this)]
      exact (hf b hb).1
  done := by
    intro X eP eW eK hc i pins s σ H E I hf st hg
    subst eP eW eK
    obtain ⟨⟨old, en⟩, hit, ne⟩ := st
    obtain ⟨xs, hq, hx⟩ := hg
    obtain ⟨its, rv, tp, hz⟩ := I.tuple hq
    obtain ⟨f0, f1, f2, f3, f4, f5⟩ := hf it (by simp)
    have hl := rv.length
    have hh : X.A.in1.handled = none := I.ok.hd hc
    have dr := Draws.tuple (prog := X.prog) (w := X.w) (A := X.A.in1) hh it a hat its.toArray
    have ei : i = its.toArray.size := by
      rw [List.size_toArray]
      omega
    subst ei
    exact wpAny_pyNext_enum_endD dr en ⟨hit, tp⟩ fun h' eb => ⟨rfl, I.turned (t' := s.toks) (fun b o hb q => eb b o hb q) f0 f1 f3 f4 f5⟩
  self := fun A i s Q E st h => let ⟨⟨_, en⟩, _⟩ := st; wpAny_pyIter_enum en h
def iEnumT (K : PySem.W.Frag) (ta : TA) : TI := fun σ H R => ta σ H fun vs H1 => ∃ a xs, vs = [.ref a] ∧ SqT K H1 a xs ∧ R (Itn K a) H1
theorem pi_enumT {X : Cx} {e : Expr} {ta : TA} {p pos tpos : Pos} {elts : List Expr} {kk : Nat} (hg : Gl X "enumerate") (hm : X.mg "enumerate" = none) (ha : PA X [e] ta) (hs : starEach [e] X.env = [(false, eval e X.env)]) :
    PI X (.Tuple elts kk tpos) (.Call (.Name "enumerate" p) [e] [] pos) (iEnumT X.K ta) := by
  refine ⟨fun pins s σ H R I h => ?_⟩
  refine Call_ (ld_blt I hg hm boot_enumerate (PyProof.Rows.callWith_type1 (thn (ha.run pos pins s σ H _ I h)
    fun us s1 ⟨vs, H1, I1, r1, a, xs, ex, hq, q⟩ => ?_) hs rfl))
  subst ex
  cases r1 with
  | cons r rr =>
    cases rr
    cases r
    obtain ⟨its, rv, tp, hz⟩ := I1.tuple hq
    have al : a < s1.heap.objs.size := by
      obtain ⟨o, ho, _⟩ := tp
      exact Heap.lt_size ho
    refine enum_one (begins_tuple a its.toArray) tp fun h2 en hit hk => wpAny_pyIter_enum en ?_
    have I2 : L2.Inv X pins σ H1 { s1 with heap := h2 } := I1.kept (t' := s1.toks) hk
    refine ⟨s1.heap.objs.size + 1, [s1.heap.objs.size + 1, s1.heap.objs.size], _, _, H1, rfl, I2,
      turn_enumT a (s1.heap.objs.size + 1) s1.heap.objs.size (Nat.ne_of_lt al) (Nat.ne_of_lt (Nat.lt_succ_of_lt al)),
      ⟨⟨.none, en⟩, ⟨_, hit, rfl, rfl⟩, Nat.succ_ne_self _⟩, fun b hb => ?_, q⟩
    have : s1.heap.objs.size ≤ b := by
      rcases (show b = s1.heap.objs.size + 1 ∨ b = s1.heap.objs.size by simpa using hb) with z | z <;> rw [z]
      · exact Nat.le_succ _
      · exact Nat.le_refl _
    exact I1.fpOk this (I1.hok.fresh this)
end Ft
namespace Ft
variable [Wd]
open PySem PySem.Spec L2
section
variable {cl : Nat → Addr} {W' : WX} {F : Fs} {X : Cx} {a b c : Expr} {ma mb mc : Ex} {ta tb tc : Te} {pos : Pos}
omit [Wd] in
theorem Res.assoc {α β γ : Type} (r : Res α) (f : α → Sto → Res β) (g : β → Sto → Res γ) : (r.bind f).bind g = r.bind fun w S => (f w S).bind g := by cases r <;> rfl
theorem rt_e (ha : PEm cl W' F X a ma) (he : ∀ whole, isTrue a X.env whole = (do let v ← whole; standAt a.pos; holding [v] (truthy v))) : PTm cl W' F X a (.e ma) := weakT (pt_truth ha he) fun σ H Q ⟨τ, S, φ, l, sr, h⟩ => by
  simp only [evT] at h
  refine ⟨τ, S, φ, l, sr, h.step fun w S1 φ1 v H1 _ n1 s1 r1 h1 => ?_⟩
  cases q : wTruth w S1 with
  | none => rw [q] at h1; exact h1.elim
  | some k =>
    rw [q] at h1
    exact ⟨k, tru_of s1 r1 q, h1.now s1 rfl⟩
theorem rt_chain {op op' : CmpOp} {g g' : D → D → Option D} (hg : Boo g) (hg' : Boo g') (ho : OpD X (compareOp op) g) (ho' : OpD X (compareOp op') g') (ha : PEm cl W' F X a ma) (hb : PEm cl W' F X b mb) (hc : PEm cl W' F X c mc) (hm : behindInMarks op b = false) (hm' : behindInMarks op' c = false) :
    PTm cl W' F X (.Compare a [op, op'] [b, c] pos) (.e (.chain g g' ma mb mc)) := by
  refine ⟨fun pins s σ H Q I ⟨τ, S, φ, l, sr, h⟩ => ?_⟩
  simp only [evT, ev, Res.assoc] at h
  let R := fun (g : D → D → Option D) (x y : V) (H : Hp) (Q : VK) => ∃ φ : Ms, ∃ d e z, Dp X.K (hid φ H) x d ∧ Dp X.K (hid φ H) y e ∧ g d e = some z ∧ (∀ a, φ.has a → H a ≠ none) ∧ ∀ v H', Same H H' → Dp X.K (hid φ H') v z → Q v H'
  refine (pt_chain (r := R g) (r' := R g') (fun pins s σ H x y v u Q I rx ry ⟨φ, z⟩ => ho φ pins s σ H x y v u Q I rx ry z) (fun pins s σ H x y v u Q I rx ry ⟨φ, z⟩ => ho' φ pins s σ H x y v u Q I rx ry z) ha hb hc (by simp [lastMarks, hm, hm'])).run pins s σ H Q I ?_
  refine ⟨τ, S, φ, l, sr, h.step fun w S1 φ1 v H1 _ n1 s1 r1 h1 => ?_⟩
  refine ⟨τ, S1, φ1, l.mono n1, s1, h1.step fun u S2 φ2 v2 H2 _ n2 s2 r2 h2 => ?_⟩
  have r1' := r1.mono n2
  cases w with
  | ref n => exact (show False from h2).elim
  | d x =>
    cases u with
    | ref n => exact (show False from h2).elim
    | d y =>
      dsimp only at h2
      cases q : g x y with
      | none => rw [q] at h2; exact h2.elim
      | some z =>
        obtain ⟨k, rfl⟩ := hg x y z q
        rw [q] at h2
        refine ⟨φ2, x, y, _, r1', r2, q, s2.there, fun v3 H3 e r3 => ?_⟩
        obtain rfl := dp_bool r3
        obtain ⟨s3, n3⟩ := s2.keep e
        refine ⟨k, rfl, ?_⟩
        cases k with
        | false => exact ⟨false, rfl, show Q false H3 from h2 φ2 false H3 n3 s3 rfl⟩
        | true =>
          have h2' : Out cl X.K W' eqR σ φ2 H2 ((ev F τ S2 mc).bind fun v S3 => (match v with
            | .d z => opt ((g' y z).map W.d) S3
            | .ref _ => .no : Res W).bind fun w S1 => opt (wTruth w S1) S1) Q := by rw [← Res.assoc]; exact h2
          refine ⟨τ, S2, φ2, ((l.mono n1).mono n2).mono n3, s3, Out.step (h2'.later n3) fun t S4 φ4 v4 H4 _ n4 s4 r4 h4 => ?_⟩
          cases t with
          | ref n => exact (show False from h4).elim
          | d z =>
            dsimp only at h4
            cases q4 : g' y z with
            | none => rw [q4] at h4; exact h4.elim
            | some z' =>
              obtain ⟨k', rfl⟩ := hg' y z z' q4
              rw [q4] at h4
              refine ⟨φ4, y, z, _, (r2.mono n3).mono n4, r4, q4, s4.there, fun v5 H5 e5 r5 => ?_⟩
              obtain rfl := dp_bool r5
              obtain ⟨s5, n5⟩ := s4.keep e5
              exact ⟨k', rfl, show Q k' H5 from h4 φ4 k' H5 n5 s5 rfl⟩
theorem rw_and1 (ha : PTm cl W' F X a ta) : PWm cl W' F X (.BoolOp .And [a] pos) ta := pw_and1 ha
theorem rw_or1 (ha : PTm cl W' F X a ta) : PWm cl W' F X (.BoolOp .Or [a] pos) ta := pw_or1 ha
theorem weakW {e : Expr} {t t' : TT} (h : PW X e t) (q : ∀ σ H Q, t' σ H Q → t σ H Q) : PW X e t' := ⟨fun wh pins s σ H Q I z => h.run wh pins s σ H Q I (q _ _ _ z)⟩
theorem rw_and {rest : List Expr} (ha : PTm cl W' F X a ta) (hb : PWm cl W' F X (.BoolOp .And (b :: rest) pos) tb) : PWm cl W' F X (.BoolOp .And (a :: b :: rest) pos) (.and ta tb) := weakW (pw_and ha hb) fun σ H Q ⟨τ, S, φ, l, sr, h⟩ => by
  simp only [evT] at h
  refine ⟨τ, S, φ, l, sr, h.step fun k S1 φ1 v H1 _ n1 s1 r1 h1 => ?_⟩
  cases r1
  cases k with
  | true => exact ⟨τ, S1, φ1, l.mono n1, s1, h1⟩
  | false => exact h1.now s1 rfl
theorem rw_or {rest : List Expr} (ha : PTm cl W' F X a ta) (hb : PWm cl W' F X (.BoolOp .Or (b :: rest) pos) tb) : PWm cl W' F X (.BoolOp .Or (a :: b :: rest) pos) (.or ta tb) := weakW (pw_or ha hb) fun σ H Q ⟨τ, S, φ, l, sr, h⟩ => by
  simp only [evT] at h
  refine ⟨τ, S, φ, l, sr, h.step fun k S1 φ1 v H1 _ n1 s1 r1 h1 => ?_⟩
  cases r1
  cases k with
  | true => exact h1.now s1 rfl
  | false => exact ⟨τ, S1, φ1, l.mono n1, s1, h1⟩
theorem rt_not (ha : PTm cl W' F X a ta) : PTm cl W' F X (.UnaryOp .Not a pos) (.not ta) := weakT (pt_not ha) fun σ H Q ⟨τ, S, φ, l, sr, h⟩ => by
  simp only [evT] at h
  refine ⟨τ, S, φ, l, sr, h.step fun k S1 φ1 v H1 _ n1 s1 r1 h1 => ?_⟩
  cases r1
  exact h1.now s1 rfl
theorem rt_ite (hc : PTm cl W' F X c tc) (ha : PTm cl W' F X a ta) (hb : PTm cl W' F X b tb) : PTm cl W' F X (.IfExp c a b pos) (.ite tc ta tb) := by
  refine ⟨fun pins s σ H Q I ⟨τ, S, φ, l, sr, h⟩ => ?_⟩
  simp only [evT] at h
  refine PyProof.Rows.isTrue_IfExp (thn (hc.run pins s σ H (fun k H1 => ∃ S1 φ1, LR X.K φ1 H1 τ σ ∧ SR X.K φ1 H1 S1 ∧ Out cl X.K W' eqR σ φ1 H1 (if k = true then evT F τ S1 ta else evT F τ S1 tb) Q) I ⟨τ, S, φ, l, sr, h.step fun k S1 φ1 v H1 _ n1 s1 r1 h1 => ?_⟩) fun k s1 ⟨H1, I1, S1, φ1, l1, sr1, q⟩ => ?_)
  · cases r1
    exact ⟨S1, φ1, l.mono n1, s1, h1⟩
  · cases k with
    | true => exact ha.run pins s1 σ H1 Q I1 ⟨τ, S1, φ1, l1, sr1, q⟩
    | false => exact hb.run pins s1 σ H1 Q I1 ⟨τ, S1, φ1, l1, sr1, q⟩
theorem same_there {φ φ' : Ms} {H H' : Hp} (n : Same (hid φ H) (hid φ' H')) {K : PySem.W.Frag} {a : Addr} {xs : List V} (h : SqT K (hid φ H) a xs) : SqT K H' a xs := seqT_mono low (seqT_mono n h)
theorem same_thereL {φ φ' : Ms} {H H' : Hp} (n : Same (hid φ H) (hid φ' H')) {K : PySem.W.Frag} {a : Addr} {xs : List V} (h : SqL K (hid φ H) a xs) : SqL K H' a xs := seqL_mono low (seqL_mono n h)
theorem piOr {tg e : Expr} {t1 t2 : TI} (h1 : PI X tg e t1) (h2 : PI X tg e t2) : PI X tg e (fun σ H R => t1 σ H R ∨ t2 σ H R) := ⟨fun pins s σ H R I z => z.elim (h1.run pins s σ H R I) (h2.run pins s σ H R I)⟩
theorem ri_seq {tg : Expr} (ha : PEm cl W' F X a ma) : PIm cl W' F X tg a (.seq ma) := weakI (piOr (piOr (pi_list ha) (pi_tup ha)) (pi_str ha)) fun σ H R ⟨τ, S, φ, l, sr, h⟩ => by
  simp only [evI] at h
  have base : ∀ {R' : VK}, (∀ w S1 φ1 v H1, ev F τ S ma = .ok w S1 → Nx φ H φ1 H1 → SR X.K φ1 H1 S1 → WR X.K φ1 H1 w v → Out cl X.K W' (fun φ' H' xs J => Wk X.K J φ' H' xs) σ φ1 H1 (match w with
    | .d x => opt (dItems x) S1
    | .ref _ => .no) R → R' v H1) → rdE cl X.K W' (fun τ S => ev F τ S ma) σ H R' := fun g => ⟨τ, S, φ, l, sr, h.step g⟩
  cases q : ev F τ S ma with
  | no => rw [q] at h; exact h.elim
  | exc e S1 =>
    refine .inl (.inl (base fun w S1 φ1 v H1 e => ?_))
    rw [q] at e
    cases e
  | ok w S1 =>
    cases w with
    | ref n =>
      refine .inl (.inl (base fun w S1 φ1 v H1 e _ _ _ h1 => ?_))
      rw [q] at e
      cases e
      exact h1.elim
    | d x =>
      cases x with
      | list xs =>
        refine .inl (.inl (base fun w S1 φ1 v H1 e n1 s1 r1 h1 => ?_))
        rw [q] at e
        cases e
        cases r1 with
        | lst g1 g2 =>
          refine ⟨_, rfl, ⟨_, seqL_mono low g1⟩, h1.now s1 fun φ2 H2 sm th i => ⟨fun hi => ?_, fun hi => ?_⟩⟩
          · have g3 := same_thereL sm g1
            have g4 := dps_mono sm g2
            obtain ⟨d, hd⟩ : ∃ d, xs[i]? = some d := ⟨_, List.getElem?_eq_getElem hi⟩
            obtain ⟨v, hv, rv⟩ := dps_get g4 hd
            refine ⟨⟨_, v, g3, hv⟩, fun v' H' y => ?_⟩
            obtain ⟨rfl, y⟩ := y
            have := y _ g3
            rw [hv] at this
            cases this
            exact ⟨Same.refl _, d, hd, rv⟩
          · exact ⟨_, same_thereL sm g1, by rw [dps_len g2, hi]; exact Nat.le_refl _⟩
      | tuple xs =>
        refine .inl (.inr (base fun w S1 φ1 v H1 e n1 s1 r1 h1 => ?_))
        rw [q] at e
        cases e
        cases r1 with
        | tup g1 g2 =>
          refine ⟨_, rfl, ⟨_, seqT_mono low g1⟩, h1.now s1 fun φ2 H2 sm th i => ⟨fun hi => ?_, fun hi => ?_⟩⟩
          · have g3 := same_there sm g1
            have g4 := dps_mono sm g2
            obtain ⟨d, hd⟩ : ∃ d, xs[i]? = some d := ⟨_, List.getElem?_eq_getElem hi⟩
            obtain ⟨v, hv, rv⟩ := dps_get g4 hd
            refine ⟨⟨_, v, g3, hv⟩, fun v' H' y => ?_⟩
            obtain ⟨rfl, y⟩ := y
            have := y _ g3
            rw [hv] at this
            cases this
            exact ⟨Same.refl _, d, hd, rv⟩
          · exact ⟨_, same_there sm g1, by rw [dps_len g2, hi]; exact Nat.le_refl _⟩
      | str t =>
        refine .inr (base fun w S1 φ1 v H1 e n1 s1 r1 h1 => ?_)
        rw [q] at e
        cases e
        cases r1 with
        | str t =>
          refine ⟨t, rfl, h1.now s1 fun φ2 H2 sm th i => ⟨fun hi => ?_, fun hi => ?_⟩⟩
          · have hi : i < t.cps.size := by simpa using hi
            refine ⟨hi, fun v' H' y => ?_⟩
            obtain ⟨rfl, c, hc, rfl⟩ := y
            refine ⟨Same.refl _, .str ⟨#[c]⟩, ?_, .str _⟩
            rw [List.getElem?_map, Array.getElem?_toList, hc]
            rfl
          · have hi : i = t.cps.size := by simpa using hi
            exact Nat.le_of_eq hi.symm
      | _ =>
        refine .inl (.inl (base fun w S1 φ1 v H1 e _ _ _ h1 => ?_))
        rw [q] at e
        cases e
        exact h1.elim
theorem rng_wk {K : PySem.W.Frag} {φ : Ms} {H : Hp} {lo hi : Int} : Wk K (Itr lo (hi - lo).toNat) φ H (rngItems lo hi) := fun φ2 H2 sm th i => by
  have e : (rngItems lo hi).length = (hi - lo).toNat := by simp [rngItems]
  refine ⟨fun h => ⟨by show i < _; omega, fun v H' y => ?_⟩, fun h => by show _ ≤ i; omega⟩
  obtain ⟨rfl, rfl⟩ := y
  refine ⟨Same.refl _, .int (lo + i), ?_, .int _⟩
  unfold rngItems
  rw [List.getElem?_map, List.getElem?_range (by omega)]
  rfl
theorem int_of {K : PySem.W.Frag} {φ : Ms} {H : Hp} {v : V} {i : Int} (r : WR K φ H (.d (.int i)) v) : v = .int i := by
  have r' : Dp K (hid φ H) v (.int i) := r
  cases r'
  rfl
theorem ri_rng1 {tg : Expr} {p : Pos} {x : Str} (hx : x = "range") (hg : Gl X x) (hm : X.mg x = none) (ha : PEm cl W' F X a ma) (hs : starEach [a] X.env = [(false, eval a X.env)]) : PIm cl W' F X tg (.Call (.Name x p) [a] [] pos) (.rng (.c (.int 0)) ma) := by
  subst hx
  refine weakI (pi_range1 hg hm (pa_cons ha pa_nil hs) hs) fun σ H R ⟨τ, S, φ, l, sr, h⟩ => ?_
  simp only [evI, ev, Res.bind_ok] at h
  refine ⟨τ, S, φ, l, sr, h.step fun w S1 φ1 v H1 _ n1 s1 r1 h1 => ?_⟩
  show ∃ j : Int, [v] = [.int j] ∧ -(2 ^ 62) ≤ j ∧ j < 2 ^ 62 ∧ R (Itr 0 j.toNat) H1
  cases w with
  | ref n => exact (show False from h1).elim
  | d y =>
    cases y with
    | int j =>
      obtain rfl := int_of r1
      dsimp only at h1
      split at h1
      · rename_i c
        refine ⟨j, rfl, c.2.2.1, c.2.2.2, ?_⟩
        have := h1.now s1 (v := Itr 0 (j - 0).toNat) rng_wk
        simpa using this
      · exact h1.elim
    | _ => exact (show False from h1).elim
theorem ri_rng2 {tg : Expr} {p : Pos} {x : Str} (hx : x = "range") (hg : Gl X x) (hm : X.mg x = none) (ha : PEm cl W' F X a ma) (hb : PEm cl W' F X b mb) (hs : starEach [a, b] X.env = [(false, eval a X.env), (false, eval b X.env)]) (hs2 : starEach [b] X.env = [(false, eval b X.env)]) :
    PIm cl W' F X tg (.Call (.Name x p) [a, b] [] pos) (.rng ma mb) := by
  subst hx
  refine weakI (pi_range2 hg hm (pa_cons ha (pa_cons hb pa_nil hs2) (by rw [hs, hs2])) hs hs2) fun σ H R ⟨τ, S, φ, l, sr, h⟩ => ?_
  simp only [evI] at h
  refine ⟨τ, S, φ, l, sr, h.step fun w S1 φ1 v H1 _ n1 s1 r1 h1 => ?_⟩
  refine ⟨τ, S1, φ1, l.mono n1, s1, h1.step fun u S2 φ2 v2 H2 _ n2 s2 r2 h2 => ?_⟩
  have r1' := r1.mono n2
  show ∃ i j : Int, [v, v2] = [.int i, .int j] ∧ (-(2 ^ 62) ≤ i ∧ i < 2 ^ 62 ∧ -(2 ^ 62) ≤ j ∧ j < 2 ^ 62) ∧ R (Itr i (j - i).toNat) H2
  cases w with
  | ref n => exact (show False from h2).elim
  | d y =>
    cases u with
    | ref n => cases y <;> exact (show False from h2).elim
    | d z =>
      cases y with
      | int i =>
        cases z with
        | int j =>
          obtain rfl := int_of r1'
          obtain rfl := int_of r2
          dsimp only at h2
          split at h2
          · rename_i c
            exact ⟨i, j, rfl, c, h2.now s2 rng_wk⟩
          · exact h2.elim
        | _ => exact (show False from h2).elim
      | _ => exact (show False from h2).elim
theorem ri_rng3 {tg : Expr} {p : Pos} {x : Str} (hx : x = "range") (hg : Gl X x) (hm : X.mg x = none) (ha : PEm cl W' F X a ma) (hb : PEm cl W' F X b mb) (hc : PEm cl W' F X c mc) (hs : starEach [a, b, c] X.env = (false, eval a X.env) :: starEach [b, c] X.env) (hs2 : starEach [b, c] X.env = (false, eval b X.env) :: starEach [c] X.env) (hs3 : starEach [c] X.env = [(false, eval c X.env)]) (hpl : (backTo pos (starEach [b, c] X.env)).any (·.1) = false) :
    PIm cl W' F X tg (.Call (.Name x p) [a, b, c] [] pos) (.rng3 ma mb mc) := by
  subst hx
  refine weakI (pi_range3 hg hm (pa_cons ha (pa_cons hb (pa_cons hc pa_nil hs3) hs2) hs) hs hpl) fun σ H R ⟨τ, S, φ, l, sr, h⟩ => ?_
  simp only [evI] at h
  refine ⟨τ, S, φ, l, sr, h.step fun w S1 φ1 v H1 _ n1 s1 r1 h1 => ?_⟩
  refine ⟨τ, S1, φ1, l.mono n1, s1, h1.step fun u S2 φ2 v2 H2 _ n2 s2 r2 h2 => ?_⟩
  refine ⟨τ, S2, φ2, (l.mono n1).mono n2, s2, h2.step fun t S3 φ3 v3 H3 _ n3 s3 r3 h3 => ?_⟩
  have r1' := (r1.mono n2).mono n3
  have r2' := r2.mono n3
  show ∃ (i j c : Int) (n : Nat), [v, v2, v3] = [.int i, .int j, .int c] ∧ RgC i j c n ∧ R (Itc i c n) H3
  cases w with
  | ref n => exact (show False from h3).elim
  | d y =>
    cases u with
    | ref n => cases y <;> exact (show False from h3).elim
    | d z =>
      cases t with
      | ref n => cases y <;> cases z <;> exact (show False from h3).elim
      | d q =>
        cases y with
        | int i =>
          cases z with
          | int j =>
            cases q with
            | int k =>
              obtain rfl := int_of r1'
              obtain rfl := int_of r2'
              obtain rfl := int_of r3
              dsimp only at h3
              split at h3
              · rename_i c
                refine ⟨i, j, k, (Builtin.Range.rangeSize i j k).toNat, rfl, ⟨c.1, c.2.1, c.2.2.1, by omega⟩, h3.now s3 fun φ4 H4 sm th n => ?_⟩
                have e : (rngItems3 i j k).length = (Builtin.Range.rangeSize i j k).toNat := by simp [rngItems3]
                refine ⟨fun h => ⟨by show n < _; omega, fun v H' y => ?_⟩, fun h => by show _ ≤ n; omega⟩
                obtain ⟨rfl, rfl⟩ := y
                refine ⟨Same.refl _, .int (i + n * k), ?_, .int _⟩
                unfold rngItems3
                rw [List.getElem?_map, List.getElem?_range (by omega)]
                rfl
              · exact h3.elim
            | _ => exact (show False from h3).elim
          | _ => exact (show False from h3).elim
        | _ => exact (show False from h3).elim
theorem enum_get : ∀ (xs : List D) (k i : Nat), (enumItems xs k)[i]? = (xs[i]?).map fun x => .tuple [.int ((k + i : Nat) : Int), x]
  | [], k, i => by simp [enumItems]
  | x :: r, k, 0 => by simp [enumItems]
  | x :: r, k, i + 1 => by
    show (enumItems r (k + 1))[i]? = _
    rw [enum_get r (k + 1) i, show k + 1 + i = k + (i + 1) by omega]
    rfl
theorem enum_len : ∀ (xs : List D) (k : Nat), (enumItems xs k).length = xs.length
  | [], _ => rfl
  | _ :: r, k => by simp [enumItems, enum_len r]
theorem new_pair {K : PySem.W.Frag} {φ : Ms} {H : Hp} {T : Addr} (hT : H T = none) (th : ∀ a, φ.has a → H a ≠ none) {xs : List V} {ds : List D} (r : DRs K φ H xs ds) : DR K φ (upd H T (.tup xs)) (.ref T) (.tuple ds) := by
  refine .tup (SqT.of (hid_of (fun m => th T m hT) upd_same)) (dps_mono (fun b u e => ?_) r)
  obtain ⟨z1, z2⟩ := hid_some e
  exact hid_of z1 (same_new hT b u z2)
theorem ri_enum {p tpos : Pos} {x : Str} {elts : List Expr} {kk : Nat} (hx : x = "enumerate") (hg : Gl X x) (hm : X.mg x = none) (ha : PEm cl W' F X a ma) (hs : starEach [a] X.env = [(false, eval a X.env)]) : PIm cl W' F X (.Tuple elts kk tpos) (.Call (.Name x p) [a] [] pos) (.enum ma) := by
  subst hx
  refine weakI (piOr (pi_enum hg hm (pa_cons ha pa_nil hs) hs) (pi_enumT hg hm (pa_cons ha pa_nil hs) hs)) fun σ H R ⟨τ, S, φ, l, sr, h⟩ => ?_
  simp only [evI] at h
  have base : ∀ {R' : VK}, (∀ w S1 φ1 v H1, ev F τ S ma = .ok w S1 → Nx φ H φ1 H1 → SR X.K φ1 H1 S1 → WR X.K φ1 H1 w v → Out cl X.K W' (fun φ' H' xs J => Wk X.K J φ' H' xs) σ φ1 H1 (match w with
    | .d x => opt ((dSeq x).map fun xs => enumItems xs 0) S1
    | .ref _ => .no) R → R' v H1) → rdE cl X.K W' (fun τ S => ev F τ S ma) σ H R' := fun g => ⟨τ, S, φ, l, sr, h.step g⟩
  cases q : ev F τ S ma with
  | no => rw [q] at h; exact h.elim
  | exc e S1 =>
    refine .inl (base fun w S1 φ1 v H1 e => ?_)
    rw [q] at e
    cases e
  | ok w S1 =>
    cases w with
    | ref n =>
      refine .inl (base fun w S1 φ1 v H1 e _ _ _ h1 => ?_)
      rw [q] at e
      cases e
      exact h1.elim
    | d x =>
      cases x with
      | list xs =>
        refine .inl (base fun w S1 φ1 v H1 e n1 s1 r1 h1 => ?_)
        rw [q] at e
        cases e
        cases r1 with
        | lst g1 g2 =>
          refine ⟨_, _, rfl, seqL_mono low g1, h1.now s1 fun φ2 H2 sm th i => ?_⟩
          rw [enum_len]
          refine ⟨fun hi => ?_, fun hi => ⟨_, same_thereL sm g1, by rw [dps_len g2, hi]; exact Nat.le_refl _⟩⟩
          have g3 := same_thereL sm g1
          obtain ⟨d, hd⟩ : ∃ d, xs[i]? = some d := ⟨_, List.getElem?_eq_getElem hi⟩
          obtain ⟨v, hv, rv⟩ := dps_get (dps_mono sm g2) hd
          refine ⟨⟨_, v, g3, hv⟩, fun v' H' ⟨T, y, e1, e2, e3, e4⟩ => ?_⟩
          have := e4 _ g3
          rw [hv] at this
          cases this
          subst e1 e3
          exact ⟨same_new e2, _, by rw [enum_get, hd]; rfl, new_pair e2 th (.cons (by rw [Nat.zero_add]; exact .int _) (.cons rv .nil))⟩
      | tuple xs =>
        refine .inr (base fun w S1 φ1 v H1 e n1 s1 r1 h1 => ?_)
        rw [q] at e
        cases e
        cases r1 with
        | tup g1 g2 =>
          refine ⟨_, _, rfl, seqT_mono low g1, h1.now s1 fun φ2 H2 sm th i => ?_⟩
          rw [enum_len]
          refine ⟨fun hi => ?_, fun hi => ⟨_, same_there sm g1, by rw [dps_len g2, hi]⟩⟩
          have g3 := same_there sm g1
          obtain ⟨d, hd⟩ : ∃ d, xs[i]? = some d := ⟨_, List.getElem?_eq_getElem hi⟩
          obtain ⟨v, hv, rv⟩ := dps_get (dps_mono sm g2) hd
          refine ⟨⟨_, v, g3, hv⟩, fun v' H' ⟨T, y, e1, e2, e3, e4⟩ => ?_⟩
          have := e4 _ g3
          rw [hv] at this
          cases this
          subst e1 e3
          exact ⟨same_new e2, _, by rw [enum_get, hd]; rfl, new_pair e2 th (.cons (by rw [Nat.zero_add]; exact .int _) (.cons rv .nil))⟩
      | _ =>
        refine .inl (base fun w S1 φ1 v H1 e _ _ _ h1 => ?_)
        rw [q] at e
        cases e
        exact h1.elim
end
end Ft
namespace Ft
variable [Wd]
open PySem PySem.Spec L2
mutual
theorem kyD_data : ∀ {x : D} {k : NestedKey}, kyD x = some k → x = k.data
  | .none, k, h => by cases h; rfl
  | .int i, k, h => by cases h; rfl
  | .str x, k, h => by cases h; rfl
  | .tuple xs, k, h => by
    unfold kyD at h
    obtain ⟨ks, h1, rfl⟩ := Option.map_eq_some_iff.mp h
    rw [NestedKey.data, kyDs_data h1]
  | .bool _, k, h => by cases h
  | .list _, k, h => by cases h
  | .dict _, k, h => by cases h
theorem kyDs_data : ∀ {xs : List D} {ks : List NestedKey}, kyDs xs = some ks → xs = NestedKey.datas ks
  | [], ks, h => by cases h; rfl
  | x :: r, ks, h => by
    unfold kyDs at h
    split at h
    · rename_i k kr h1 h2
      cases h
      rw [NestedKey.datas, ← kyD_data h1, ← kyDs_data h2]
    · cases h
end
theorem keyM_data {x : D} {k : NestedKey} (h : keyM x = some k) : x = k.data ∧ k.depth ≤ 8 ∧ (isTup k = false → ∃ k', k = kN k') := by
  cases x with
  | int i => cases h; exact ⟨rfl, Nat.zero_le _, fun _ => ⟨.inl i, rfl⟩⟩
  | str x => cases h; exact ⟨rfl, Nat.zero_le _, fun _ => ⟨.inr x, rfl⟩⟩
  | tuple xs =>
    have h : ((kyDs xs).bind fun ks => if (NestedKey.tup ks).depth ≤ 8 then some (NestedKey.tup ks) else none) = some k := h
    cases q : kyDs xs with
    | none => rw [q] at h; cases h
    | some ks =>
      rw [q] at h
      have h : (if (NestedKey.tup ks).depth ≤ 8 then some (NestedKey.tup ks) else none) = some k := h
      split at h
      · rename_i hd
        cases h
        exact ⟨by rw [NestedKey.data, kyDs_data q], hd, fun z => by cases z⟩
      · cases h
  | _ => cases h
section
variable {X : Cx} {pins : List (Addr × Obj)} {σ : St} {H : Hp} {s : Shared}
mutual
theorem dp_nested (I : Inv X pins σ H s) : ∀ {k : NestedKey} {v : V} {u : Value}, Dp X.K H v k.data → RelV v u → NestedIs s.heap k u
  | .none, v, u, h, r => by
    cases h
    cases r
    exact .none
  | .num i, v, u, h, r => by
    cases h
    obtain ⟨t, rfl⟩ := r
    exact .int i t
  | .text x, v, u, h, r => by
    cases h
    obtain ⟨t, rfl⟩ := r
    exact .text x t
  | .tup ks, v, u, h, r => by
    rw [NestedKey.data] at h
    cases h with
    | tup h1 h2 =>
      cases r
      obtain ⟨its, rv, ⟨o, ho, hc, n, hd⟩, _⟩ := I.tuple h1
      exact .tup ho hc hd (by simpa using dp_nesteds I h2 rv)
theorem dp_nesteds (I : Inv X pins σ H s) : ∀ {ks : List NestedKey} {vs : List V} {us : List Value}, DpAll X.K H vs (NestedKey.datas ks) → Vals vs us → NestedAll s.heap ks us
  | [], vs, us, h, r => by
    cases h
    cases r
    exact .nil
  | k :: ks, vs, us, h, r => by
    cases h with
    | cons h1 h2 =>
      cases r with
      | cons r1 r2 => exact .cons (dp_nested I h1 r1) (dp_nesteds I h2 r2)
end
end
theorem dp_low {K : PySem.W.Frag} {φ : Ms} {H : Hp} {v : V} {d : D} (h : Dp K (hid φ H) v d) : Dp K H v d := dp_mono low h
section
variable {K : PySem.W.Frag} {φ : Ms} {H : Hp}
theorem KRW.tup {ks : List (L2.Key × V)} {kvs : List (NestedKey × W)} (h : KRW K φ H ks kvs) : ∀ kv ∈ kvs, isTup kv.1 = false := by
  induction h with
  | nil => intro kv m; cases m
  | @cons k v w r s h1 _ ih =>
    intro kv m
    cases m with
    | head => cases k <;> rfl
    | tail _ m => exact ih kv m
theorem KRN.tup {ks : List (NestedKey × Addr × Value)} {kvs : List (NestedKey × W)} (h : KRN K φ H ks kvs) : ∀ kv ∈ kvs, isTup kv.1 = true := by
  induction h with
  | nil => intro kv m; cases m
  | cons h1 h2 _ _ _ _ ih =>
    intro kv m
    cases m with
    | head => exact h2
    | tail _ m => exact ih kv m
theorem KRW.len {ks : List (L2.Key × V)} {kvs : List (NestedKey × W)} (h : KRW K φ H ks kvs) : ks.length = kvs.length := by
  induction h with
  | nil => rfl
  | cons _ _ ih => simp [ih]
theorem KRN.len {ks : List (NestedKey × Addr × Value)} {kvs : List (NestedKey × W)} (h : KRN K φ H ks kvs) : ks.length = kvs.length := by
  induction h with
  | nil => rfl
  | cons _ _ _ _ _ _ ih => simp [ih]
theorem KRW.get {ks : List (L2.Key × V)} {kvs : List (NestedKey × W)} (h : KRW K φ H ks kvs) (k : L2.Key) : match valV ks k, atM kvs (kN k) with
    | some v, some w => WR K φ H w v
    | none, none => True
    | _, _ => False := by
  induction h with
  | nil => exact trivial
  | @cons k' v w r s h1 _ ih =>
    unfold valV atM at ih ⊢
    rw [List.find?_cons, List.find?_cons]
    by_cases e : k' = k
    · subst e
      simp only [decide_true, Option.map_some]
      exact h1
    · rw [decide_eq_false (show ¬ (k', v).1 = k from e), decide_eq_false (show ¬ (kN k', w).1 = kN k from fun z => e (kN_inj z))]
      exact ih
theorem KRN.get {ks : List (NestedKey × Addr × Value)} {kvs : List (NestedKey × W)} (h : KRN K φ H ks kvs) (k : NestedKey) : match atKey ks k, atM kvs k with
    | some p, some w => ∃ v, RelV v p.2 ∧ WR K φ H w v
    | none, none => True
    | _, _ => False := by
  induction h with
  | nil => exact trivial
  | @cons k' b u v w r s _ _ _ h4 h5 _ ih =>
    unfold atKey atM at ih ⊢
    rw [List.find?_cons, List.find?_cons]
    by_cases e : k' = k
    · subst e
      simp only [decide_true, Option.map_some]
      exact ⟨v, h4, h5⟩
    · have e2 : decide (k' = k) = false := decide_eq_false e
      simp only [e2]
      exact ih
theorem KRW.any {ks : List (L2.Key × V)} {kvs : List (NestedKey × W)} (h : KRW K φ H ks kvs) (k : L2.Key) : (ks.any fun kv => decide (kv.1 = k)) = kvs.any fun kv => decide (kv.1 = kN k) := by
  induction h with
  | nil => rfl
  | @cons k' v w r s h1 _ ih =>
    rw [List.any_cons, List.any_cons, ih]
    congr 1
    by_cases e : k' = k
    · subst e; simp
    · rw [decide_eq_false (show ¬ (k', v).1 = k from e), decide_eq_false (show ¬ (kN k', w).1 = kN k from fun z => e (kN_inj z))]
theorem KRW.put {ks : List (L2.Key × V)} {kvs : List (NestedKey × W)} (h : KRW K φ H ks kvs) {k : L2.Key} {v : V} {w : W} (r : WR K φ H w v) : KRW K φ H (L2.putK ks k v) (putM kvs (kN k) w) := by
  unfold L2.putK putM
  rw [h.any k]
  split
  · rename_i hz
    clear hz
    induction h with
    | nil => exact .nil
    | @cons k' v' w' _ _ h1 _ ih =>
      rw [List.map_cons, List.map_cons]
      by_cases e : k' = k
      · rw [if_pos (show (k', v').1 = k from e), if_pos (show (kN k', w').1 = kN k by rw [← e])]
        exact .cons r ih
      · rw [if_neg (show ¬ (k', v').1 = k from e), if_neg (show ¬ (kN k', w').1 = kN k from fun z => e (kN_inj z))]
        exact .cons h1 ih
  · rename_i hz
    clear hz
    induction h with
    | nil => exact .cons r .nil
    | cons h1 _ ih => exact .cons h1 ih
theorem KRN.put {ks : List (NestedKey × Addr × Value)} {kvs : List (NestedKey × W)} (h : KRN K φ H ks kvs) {k : NestedKey} {b : Addr} {u : Value} {v : V} {w : W} (hb : Dp K (hid φ H) (.ref b) k.data) (ht : isTup k = true) (hd : k.depth ≤ 8) (ru : RelV v u) (r : WR K φ H w v) :
    KRN K φ H (storedH ks k b u) (putM kvs k w) := by
  have e : (kvs.any fun kv => decide (kv.1 = k)) = (atKey ks k).isSome := by
    have z := h.get k
    have q : (kvs.any fun kv => decide (kv.1 = k)) = (atM kvs k).isSome := by
      clear z h
      induction kvs with
      | nil => rfl
      | cons p r ih =>
        rw [List.any_cons]
        unfold atM at ih ⊢
        rw [List.find?_cons]
        by_cases e : p.1 = k
        · simp [e]
        · rw [decide_eq_false e]
          simpa using ih
    rw [q]
    cases q1 : atKey ks k <;> cases q2 : atM kvs k <;> rw [q1, q2] at z <;> first | rfl | exact z.elim
  unfold storedH putM
  rw [e]
  split
  · rename_i hz
    clear hz e
    induction h with
    | nil => exact .nil
    | @cons k' b' u' v' w' _ _ h1 h2 h3 h4 h5 _ ih =>
      rw [List.map_cons, List.map_cons]
      unfold putAt
      by_cases e : k' = k
      · rw [if_pos (show (k', b', u').1 = k from e), if_pos (show (k', w').1 = k from e)]
        exact .cons h1 h2 h3 ru r ih
      · rw [if_neg (show ¬ (k', b', u').1 = k from e), if_neg (show ¬ (k', w').1 = k from e)]
        exact .cons h1 h2 h3 h4 h5 ih
  · rename_i hz
    clear hz e
    induction h with
    | nil => exact .cons hb ht hd ru r .nil
    | cons h1 h2 h3 h4 h5 _ ih => exact .cons h1 h2 h3 h4 h5 ih
theorem putM_len (kvs : List (NestedKey × W)) (k : NestedKey) (w : W) : (putM kvs k w).length ≤ kvs.length + 1 := by
  unfold putM
  split
  · simp
  · simp
theorem okM_one {kvs : List (NestedKey × W)} {k : NestedKey} (h : okM kvs k = true) {kv : NestedKey × W} (m : kv ∈ kvs) : isTup kv.1 = isTup k := by
  have := List.all_eq_true.mp h kv m
  exact eq_of_beq this
end
section
variable {X : Cx} {pins : List (Addr × Obj)} {σ : St} {H : Hp} {s : Shared} {φ : Ms} {a : Addr} {kvs : List (NestedKey × W)} {k : NestedKey}
theorem krn_is (I : Inv X pins σ H s) {xs : List (NestedKey × Addr × Value)} (h : KRN X.K φ H xs kvs) : ∀ x ∈ xs, (nestedKind X.prog X.w).is s.heap x.1 x.2.1 := by
  induction h with
  | nil => intro x m; cases m
  | cons h1 _ h3 _ _ _ ih =>
    intro x m
    cases m with
    | head => exact ⟨dp_nested I (dp_low h1) rfl, h3⟩
    | tail _ m => exact ih x m
theorem nk_at (hw : X.w = Wd.w) (I : Inv X pins σ H s) {xs : List (NestedKey × Addr × Value)} (e : H a = some (NK a xs)) (h : KRN X.K φ H xs kvs) : s.heap.DictOfH (nestedKind X.prog X.w) a xs := by
  obtain ⟨⟨o, es, ep, h1, h2, h3, h4, h5⟩, _, _⟩ := (show ObjOk X.prog X.w H s.heap a (NK a xs) from I.hok a _ e)
  refine ⟨o, es, ep, h1, h2, h3, ?_, krn_is I h, h5⟩
  rw [h4, ← hw]
  rfl
/-- as a dict with tuples for keys -/
theorem mp_tup (hw : X.w = Wd.w) (I : Inv X pins σ H s) (h : MpR X.K φ H a kvs) (ok : okM kvs k = true) (ht : isTup k = true) :
    (a == sysModules) = false ∧ kvs.length ≤ sizeLine ∧ ∃ xs, s.heap.DictOfH (nestedKind X.prog X.w) a xs ∧ KRN X.K φ H xs kvs ∧ Mut (H a) := by
  rcases h with ⟨ks, h1, h2⟩ | ⟨h0, hl, xs, h1, h2⟩
  · obtain ⟨z, hs, vs, rel, o, es, ep, g1, g2, g3, g4, g5, g6⟩ := dk_of I.hok h1
    have e : kvs = [] := by
      cases kvs with
      | nil => rfl
      | cons p r =>
        have t1 := h2.tup p (.head _)
        rw [okM_one ok (.head _), ht] at t1
        cases t1
    subst e
    cases h2
    cases rel
    refine ⟨hs, Nat.zero_le _, [], ⟨o, es, ep, g1, g2, g3, ?_, fun x m => by (cases m), by simp⟩, .nil, by rw [h1]; exact trivial⟩
    have : es.toList.length = 0 := by
      have := g5.length
      simpa using this
    exact List.eq_nil_of_length_eq_zero this
  · exact ⟨h0, hl, xs, nk_at hw I h1 h2, h2, by rw [h1]; exact trivial⟩
/-- as a dict with texts and numbers for keys -/
theorem mp_flat (hw : X.w = Wd.w) (I : Inv X pins σ H s) (h : MpR X.K φ H a kvs) (ok : okM kvs k = true) (ht : isTup k = false) :
    (a == sysModules) = false ∧ kvs.length ≤ sizeLine ∧ ∃ ks vs, KV ks vs ∧ s.heap.DictOf (mixKind X.prog X.w) a vs ∧ KRW X.K φ H ks kvs ∧ Mut (H a) := by
  rcases h with ⟨ks, h1, h2⟩ | ⟨h0, hl, xs, h1, h2⟩
  · obtain ⟨z, hs, vs, rel, dd⟩ := dk_of I.hok h1
    exact ⟨hs, by rw [← h2.len]; exact z, ks, vs, rel, dd, h2, by rw [h1]; exact trivial⟩
  · have e : kvs = [] := by
      cases kvs with
      | nil => rfl
      | cons p r =>
        have t1 := h2.tup p (.head _)
        rw [okM_one ok (.head _), ht] at t1
        cases t1
    subst e
    cases h2
    obtain ⟨o, es, ep, g1, g2, g3, g4, _, _⟩ := nk_at (φ := φ) hw I h1 KRN.nil
    refine ⟨h0, Nat.zero_le _, [], [], .nil, ⟨o, es, ep, g1, g2, g3, ?_, ?_, by simp⟩, .nil, by rw [h1]; exact trivial⟩
    · have e : es = #[] := by
        apply Array.ext'
        simpa using g4
      subst e
      intro i hi
      simp at hi
    · have e : es.toList = [] := by simpa using g4
      rw [e]
      exact .nil
end
end Ft
namespace Ft
variable [Wd]
open PySem PySem.Spec L2
open PyProof.Rows hiding St
section
variable {X : Cx} {pins : List (Addr × Obj)} {σ : St} {H : Hp} {s : Shared} {φ : Ms} {a : Addr} {kvs : List (NestedKey × W)} {k : NestedKey}
/-- the dict's object -/
theorem mp_obj (hw : X.w = Wd.w) (I : L2.Inv X pins σ H s) (h : MpR X.K φ H a kvs) :
    ∃ ob es ep, s.heap.get? a = some ob ∧ ob.ExactDict ∧ ob.data = .dict es ep ∧ (a == sysModules) = false ∧ es.size = kvs.length ∧ kvs.length ≤ sizeLine := by
  rcases h with ⟨ks, h1, h2⟩ | ⟨h0, hl, xs, h1, h2⟩
  · obtain ⟨z, hs, vs, rel, ob, es, ep, g1, g2, g3, g4, g5, _⟩ := dk_of I.hok h1
    refine ⟨ob, es, ep, g1, g2, g3, hs, ?_, by rw [← h2.len]; exact z⟩
    rw [← Array.length_toList, g5.length, ← rel.length, h2.len]
  · obtain ⟨ob, es, ep, g1, g2, g3, g4, _⟩ := nk_at hw I h1 h2
    exact ⟨ob, es, ep, g1, g2, g3, h0, by rw [size_of_entries g4, h2.len], hl⟩
theorem mp_is (hw : X.w = Wd.w) (I : L2.Inv X pins σ H s) (h : MpR X.K φ H a kvs) : s.TypeIs (.ref a) "dict" ∧ (∀ b, Value.ref a = .ref b → ∃ ob, s.heap.get? b = some ob ∧ ob.dict = none) := by
  obtain ⟨ob, es, ep, g1, g2, g3, _⟩ := mp_obj hw I h
  exact ⟨⟨ob, g1, g2.1⟩, fun b q => by cases q; exact ⟨ob, g1, g2.2.1⟩⟩
/-- a key's value -/
theorem key_tup {K : PySem.W.Frag} {v : V} (ht : isTup k = true) (r : Dp K (hid φ H) v k.data) : ∃ b, v = .ref b := by
  cases k with
  | tup ks =>
    rw [NestedKey.data] at r
    cases r with
    | tup h1 h2 => exact ⟨_, rfl⟩
  | _ => cases ht
theorem key_flat {K : PySem.W.Frag} {v : V} {j : L2.Key} (r : Dp K (hid φ H) v (kN j).data) : v = kV j := by
  cases j with
  | inl i => cases r; rfl
  | inr x => cases r; rfl
/-- what is found -/
theorem mp_get {y : V} {u : Value} {w : W} {A : Around} {E : Value → Shared → Prop} {Q : Value → Shared → Prop} (hu : A.units + 20 < cLine) (hw : X.w = Wd.w) (I : L2.Inv X pins σ H s) (h : MpR X.K φ H a kvs) {d : D} (r : DR X.K φ H y d) (ek : keyM d = some k) (ok : okM kvs k = true) (e : atM kvs k = some w) (ru : RelV y u)
    (q : ∀ v u' s', L2.Inv X pins σ H s' → RelV v u' → WR X.K φ H w v → Q u' s') : wpAny (model X.prog X.w) A (getItem (.ref a) u) Q E s := by
  obtain ⟨e1, e2, e3⟩ := keyM_data ek
  subst e1
  cases ht : isTup k with
  | true =>
    obtain ⟨hs, hl, xs, dd, kr, _⟩ := mp_tup hw I h ok ht
    obtain ⟨b, rfl⟩ := key_tup ht r
    cases ru
    have z := kr.get k
    rw [e] at z
    cases q1 : atKey xs k with
    | none => rw [q1] at z; exact z.elim
    | some p =>
      rw [q1] at z
      obtain ⟨v, z1, z2⟩ := z
      exact wpAny_getItem_heap (knd := nestedKind X.prog X.w) (by show A.units + 1 + 8 < cLine; omega) ⟨dp_nested I (dp_low r) rfl, e2⟩ dd q1 (q v _ _ (I.tok _) z1 z2)
  | false =>
    obtain ⟨hs, hl, ks, vs, rel, dd, kr, _⟩ := mp_flat hw I h ok ht
    obtain ⟨j, rfl⟩ := e3 ht
    obtain rfl := key_flat r
    have z := kr.get j
    rw [e] at z
    cases q1 : valV ks j with
    | none => rw [q1] at z; exact z.elim
    | some v =>
      rw [q1] at z
      obtain ⟨w', hw', rw'⟩ := RelO.some_of (v := v) (o := valueAt vs j) (by rw [← q1]; exact rel.val j)
      exact wpAny_getItem_of (kV_is ru) dd.mapOf hw' (q v w' _ (I.tok _) rw' z)
theorem mp_in {y : V} {u : Value} {A : Around} {E : Value → Shared → Prop} {Q : Value → Shared → Prop} (hu : A.units + 20 < cLine) (hw : X.w = Wd.w) (I : L2.Inv X pins σ H s) (h : MpR X.K φ H a kvs) {d : D} (r : DR X.K φ H y d) (ek : keyM d = some k) (ok : okM kvs k = true) (ru : RelV y u)
    (q : ∀ s', L2.Inv X pins σ H s' → Q (.bool (atM kvs k).isSome) s') : wpAny (model X.prog X.w) A (compareOp .In u (.ref a)) Q E s := by
  obtain ⟨e1, e2, e3⟩ := keyM_data ek
  subst e1
  cases ht : isTup k with
  | true =>
    obtain ⟨hs, hl, xs, dd, kr, _⟩ := mp_tup hw I h ok ht
    obtain ⟨b, rfl⟩ := key_tup ht r
    cases ru
    have z := kr.get k
    have z' : (atKey xs k).isSome = (atM kvs k).isSome := by
      cases q1 : atKey xs k <;> cases q2 : atM kvs k <;> rw [q1, q2] at z <;> first | rfl | exact z.elim
    refine wpAny_in_heap (knd := nestedKind X.prog X.w) (by show A.units + 1 + 8 < cLine; omega) ⟨dp_nested I (dp_low r) rfl, e2⟩ hs dd ?_
    rw [z']
    exact q _ (I.tok _)
  | false =>
    obtain ⟨hs, hl, ks, vs, rel, dd, kr, _⟩ := mp_flat hw I h ok ht
    obtain ⟨j, rfl⟩ := e3 ht
    obtain rfl := key_flat r
    have z := kr.get j
    have z' : (valV ks j).isSome = (atM kvs (kN j)).isSome := by
      cases q1 : valV ks j <;> cases q2 : atM kvs (kN j) <;> rw [q1, q2] at z <;> first | rfl | exact z.elim
    refine wpAny_in_of (kV_is ru) hs dd.mapOf ?_
    rw [← (rel.val j).isSome_eq, z']
    exact q _ (I.tok _)
theorem mp_notIn {y : V} {u : Value} {A : Around} {E : Value → Shared → Prop} {Q : Value → Shared → Prop} (hu : A.units + 20 < cLine) (hw : X.w = Wd.w) (I : L2.Inv X pins σ H s) (h : MpR X.K φ H a kvs) {d : D} (r : DR X.K φ H y d) (ek : keyM d = some k) (ok : okM kvs k = true) (ru : RelV y u)
    (q : ∀ s', L2.Inv X pins σ H s' → Q (.bool (!(atM kvs k).isSome)) s') : wpAny (model X.prog X.w) A (compareOp .NotIn u (.ref a)) Q E s := by
  obtain ⟨e1, e2, e3⟩ := keyM_data ek
  subst e1
  cases ht : isTup k with
  | true =>
    obtain ⟨hs, hl, xs, dd, kr, _⟩ := mp_tup hw I h ok ht
    obtain ⟨b, rfl⟩ := key_tup ht r
    cases ru
    have z := kr.get k
    have z' : (atKey xs k).isSome = (atM kvs k).isSome := by
      cases q1 : atKey xs k <;> cases q2 : atM kvs k <;> rw [q1, q2] at z <;> first | rfl | exact z.elim
    refine wpAny_notIn_heap (knd := nestedKind X.prog X.w) (by show A.units + 1 + 8 < cLine; omega) ⟨dp_nested I (dp_low r) rfl, e2⟩ hs dd ?_
    rw [z']
    exact q _ (I.tok _)
  | false =>
    obtain ⟨hs, hl, ks, vs, rel, dd, kr, _⟩ := mp_flat hw I h ok ht
    obtain ⟨j, rfl⟩ := e3 ht
    obtain rfl := key_flat r
    have z := kr.get j
    have z' : (valV ks j).isSome = (atM kvs (kN j)).isSome := by
      cases q1 : valV ks j <;> cases q2 : atM kvs (kN j) <;> rw [q1, q2] at z <;> first | rfl | exact z.elim
    refine wpAny_notIn_of (kV_is ru) hs dd.mapOf ?_
    rw [← (rel.val j).isSome_eq, z']
    exact q _ (I.tok _)
theorem up_same (ha : φ.has a) {o : HO} : Same (hid φ H) (hid φ (upd H a o)) := fun b u e => by
  obtain ⟨z1, z2⟩ := hid_some e
  refine hid_of z1 ?_
  rw [upd_ne (fun z => z1 (by rw [z]; exact ha))]
  exact z2
/-- the dict's object is another one -/
theorem mp_new (hw : X.w = Wd.w) (hs : (a == sysModules) = false) {xs : List (NestedKey × Addr × Value)} {h' : Heap} {H' : Hp} (dd : h'.DictOfH (nestedKind X.prog X.w) a xs) : ObjOk X.prog X.w H' h' a (NK a xs) := by
  obtain ⟨o, es, ep, g1, g2, g3, g4, _, g6⟩ := dd
  refine ⟨⟨o, es, ep, g1, g2, g3, by rw [g4, ← hw]; rfl, g6⟩, ⟨o, g1⟩, fun h1 h2 ⟨o, es, ep, g1, g2⟩ k => ⟨o, es, ep, k _ g1, g2⟩⟩
theorem mp_put {y vz : V} {u uz : Value} {w : W} {A : Around} {E : Value → Shared → Prop} {Q : Unit → Shared → Prop} (hu : A.units + 20 < cLine) (hw : X.w = Wd.w) (I : L2.Inv X pins σ H s) (ha : φ.has a) (h : MpR X.K φ H a kvs) {d : D} (r : DR X.K φ H y d) (ek : keyM d = some k) (ok : okM kvs k = true) (hl : kvs.length < sizeLine) (ru : RelV y u) (rz : RelV vz uz) (rw' : WR X.K φ H w vz)
    (q : ∀ o s', MpR X.K φ (upd H a o) a (putM kvs k w) → L2.Inv X pins σ (upd H a o) s' → Q () s') : wpAny (model X.prog X.w) A (setItem (.ref a) u uz) Q E s := by
  obtain ⟨e1, e2, e3⟩ := keyM_data ek
  subst e1
  have hp := putM_len kvs k w
  cases ht : isTup k with
  | true =>
    obtain ⟨hs, _, xs, dd, kr, mu⟩ := mp_tup hw I h ok ht
    obtain ⟨b, rfl⟩ := key_tup ht r
    cases ru
    refine wpAny_setItem_heap (knd := nestedKind X.prog X.w) (hsz := by rw [kr.len]; omega) (by show A.units + 1 + 8 < cLine; omega) ⟨dp_nested I (dp_low r) rfl, e2⟩ dd fun h' dd' hsb => q (NK a (storedH xs k b uz)) _ ?_ ?_
    · refine .inr ⟨hs, by omega, _, upd_same, ?_⟩
      exact (kr.put r ht e2 rz rw').mono (WR.monog (up_same ha) fun _ _ z => z) (up_same ha)
    · obtain ⟨o, es, ep, g1, _⟩ := id dd'
      exact d_write I mu hsb ⟨o, g1⟩ (mp_new hw hs dd')
  | false =>
    obtain ⟨hs, _, ks, vs, rel, dd, kr, mu⟩ := mp_flat hw I h ok ht
    obtain ⟨j, rfl⟩ := e3 ht
    obtain rfl := key_flat r
    have hz : vs.length ≤ sizeLine := by rw [← rel.length, kr.len]; omega
    have hl2 : (putK ks j vz).length ≤ sizeLine := by have := length_putK ks j vz; have := kr.len; omega
    refine wpAny_setItem_pairs (hsz := hz) (kV_is ru) dd fun h' dd' hsb => q (.dK (putK ks j vz)) _ ?_ ?_
    · exact .inl ⟨_, upd_same, (kr.put rw').mono (WR.monog (up_same ha) fun _ _ z => z)⟩
    · have he : ∃ q, h'.get? a = some q := let ⟨q, _, _, hq, _⟩ := dd'; ⟨q, hq⟩
      exact d_write I mu hsb he (dk_new hl2 hs (rel.put j rz) dd')
end
end Ft
namespace Ft
open PySem PySem.Spec L2
open PyProof.Rows hiding St
theorem ltK_irrefl (k : NestedKey) : ltK k k = false := lex_irrefl _
theorem ltK_trans {a b c : NestedKey} (h1 : ltK a b = true) (h2 : ltK b c = true) : ltK a c = true := lex_trans _ _ _ h1 h2
theorem str_eq {x y : Str} (h : x.cps.toList = y.cps.toList) : x = y := by
  obtain ⟨p⟩ := x
  obtain ⟨q⟩ := y
  rw [show p = q from Array.toList_inj.mp h]
theorem atomK_inj {x y : NestedKey} {a : Int ⊕ List Nat} (h1 : atomK x = some a) (h2 : atomK y = some a) : x = y := by
  have e : atomK x = atomK y := h1.trans h2.symm
  cases x <;> cases y <;> first | (cases h1; done) | (cases h2; done) | skip
  · rw [Sum.inl.inj (Option.some.inj e)]
  · cases Option.some.inj e
  · cases Option.some.inj e
  · rw [str_eq (Sum.inr.inj (Option.some.inj e))]
theorem atomsK_inj : ∀ {xs ys : List NestedKey} {as : List (Int ⊕ List Nat)}, atomsK xs = some as → atomsK ys = some as → xs = ys
  | [], [], _, _, _ => rfl
  | [], y :: ys, as, h1, h2 => by
    cases h1
    unfold atomsK at h2
    split at h2 <;> cases h2
  | x :: xs, [], as, h1, h2 => by
    cases h2
    unfold atomsK at h1
    split at h1 <;> cases h1
  | x :: xs, y :: ys, as, h1, h2 => by
    unfold atomsK at h1 h2
    split at h1
    · rename_i a as1 e1 e2
      cases h1
      split at h2
      · rename_i b as2 f1 f2
        cases h2
        have e : x = y := atomK_inj e1 f1
        rw [e, atomsK_inj e2 f2]
      · cases h2
    · cases h1
theorem flat_get {k : NestedKey} (h : isFlat k = true) : ∃ x r as, k = .tup (.text x :: r) ∧ atomsK r = some as ∧ flatK k = .inr x.cps.toList :: as := by
  unfold isFlat at h
  split at h
  · rename_i x r
    obtain ⟨as, e⟩ := Option.isSome_iff_exists.mp h
    refine ⟨x, r, as, rfl, e, ?_⟩
    show (atomsK (.text x :: r)).getD [] = _
    unfold atomsK
    rw [e]
    rfl
  · cases h
theorem flat_inj {k j : NestedKey} (h1 : isFlat k = true) (h2 : isFlat j = true) (e : flatK k = flatK j) : k = j := by
  obtain ⟨x, r, as, rfl, e1, e2⟩ := flat_get h1
  obtain ⟨y, t, bs, rfl, f1, f2⟩ := flat_get h2
  rw [e2, f2] at e
  injection e with g1 g2
  subst g2
  rw [atomsK_inj e1 f1]
  have : x = y := by
    obtain ⟨p⟩ := x
    obtain ⟨q⟩ := y
    rw [show p = q from Array.toList_inj.mp (Sum.inr.inj g1)]
  rw [this]
theorem ltK_total {k j : NestedKey} (h1 : isFlat k = true) (h2 : isFlat j = true) (a : ltK k j = false) (b : ltK j k = false) : k = j := flat_inj h1 h2 (lex_total (O := itemOrd) _ _ a b)
theorem insK_perm (k : NestedKey) : ∀ l : List NestedKey, (insK k l).Perm (k :: l)
  | [] => List.Perm.refl _
  | j :: r => by
    unfold insK
    split
    · exact List.Perm.refl _
    · exact ((insK_perm k r).cons j).trans (.swap k j r)
theorem sortK_perm : ∀ l : List NestedKey, (sortK l).Perm l
  | [] => List.Perm.refl _
  | k :: r => (insK_perm k (sortK r)).trans ((sortK_perm r).cons k)
def AscK (l : List NestedKey) : Prop := l.Pairwise fun x y => ltK x y = true
theorem insK_asc (k : NestedKey) (hk : isFlat k = true) : ∀ l : List NestedKey, AscK l → (∀ j ∈ l, isFlat j = true) → k ∉ l → AscK (insK k l)
  | [], _, _, _ => List.pairwise_singleton _ _
  | j :: r, h, hf, hn => by
    obtain ⟨a, b⟩ := List.pairwise_cons.mp h
    unfold insK
    split
    · rename_i c
      refine List.pairwise_cons.mpr ⟨fun y hy => ?_, h⟩
      cases hy with
      | head => exact c
      | tail _ hy => exact ltK_trans c (a y hy)
    · rename_i c
      have c' : ltK j k = true := by
        cases q : ltK j k with
        | true => rfl
        | false =>
          have := ltK_total hk (hf j (.head _)) (by simpa using c) q
          exact absurd (this ▸ List.Mem.head _) hn
      refine List.pairwise_cons.mpr ⟨fun y hy => ?_, insK_asc k hk r b (fun x hx => hf x (.tail _ hx)) (fun z => hn (.tail _ z))⟩
      rcases List.mem_cons.mp ((insK_perm k r).mem_iff.mp hy) with rfl | hy
      · exact c'
      · exact a y hy
theorem sortK_asc : ∀ l : List NestedKey, l.Nodup → (∀ j ∈ l, isFlat j = true) → AscK (sortK l)
  | [], _, _ => .nil
  | k :: r, hn, hf => by
    obtain ⟨a, b⟩ := List.nodup_cons.mp hn
    exact insK_asc k (hf k (.head _)) _ (sortK_asc r b fun x hx => hf x (.tail _ hx)) (fun j hj => hf j (.tail _ ((sortK_perm r).mem_iff.mp hj))) fun m => a ((sortK_perm r).mem_iff.mp m)
theorem asc_uniq : ∀ {l m : List NestedKey}, AscK l → AscK m → l.Perm m → l = m
  | [], m, _, _, p => (List.Perm.eq_nil p.symm).symm
  | x :: l, [], _, _, p => by cases p.eq_nil
  | x :: l, y :: m, h1, h2, p => by
    obtain ⟨a1, a2⟩ := List.pairwise_cons.mp h1
    obtain ⟨b1, b2⟩ := List.pairwise_cons.mp h2
    have e : x = y := by
      rcases List.mem_cons.mp (p.mem_iff.mp (List.Mem.head _)) with e | m1
      · exact e
      · rcases List.mem_cons.mp (p.mem_iff.mpr (List.Mem.head _)) with e | m2
        · exact e.symm
        · have := ltK_trans (a1 y m2) (b1 x m1)
          rw [ltK_irrefl] at this
          cases this
    subst e
    rw [asc_uniq a2 b2 (List.Perm.cons_inv p)]
def rankK (l : List NestedKey) (k : NestedKey) : Nat := l.countP fun j => ltK j k
theorem countP_lt {α : Type} {p q : α → Bool} : ∀ {l : List α}, (∀ x ∈ l, p x = true → q x = true) → (∃ x ∈ l, p x = false ∧ q x = true) → l.countP p < l.countP q
  | [], _, ⟨x, m, _⟩ => by cases m
  | y :: l, h, ⟨x, m, h1, h2⟩ => by
    rw [List.countP_cons, List.countP_cons]
    have le : l.countP p ≤ l.countP q := List.countP_mono_left fun z hz => h z (.tail _ hz)
    cases m with
    | head =>
      rw [h1, h2]
      simp
      omega
    | tail _ m =>
      have ih := countP_lt (fun z hz => h z (.tail _ hz)) ⟨x, m, h1, h2⟩
      cases q1 : p y with
      | false =>
        simp
        omega
      | true =>
        rw [h y (.head _) q1]
        simp
        exact ih
theorem rankK_lt {l : List NestedKey} {a b : NestedKey} (ha : a ∈ l) (h : ltK a b = true) : rankK l a < rankK l b :=
  countP_lt (fun x _ z => ltK_trans z h) ⟨a, ha, ltK_irrefl a, h⟩
theorem rankK_iff {l : List NestedKey} (hf : ∀ j ∈ l, isFlat j = true) {a b : NestedKey} (ha : a ∈ l) (hb : b ∈ l) : decide ((rankK l a : Int) < (rankK l b : Int)) = ltK a b := by
  cases h : ltK a b with
  | true => exact decide_eq_true (by have := rankK_lt ha h; omega)
  | false =>
    refine decide_eq_false fun z => ?_
    cases q : ltK b a with
    | true => have := rankK_lt hb q; omega
    | false =>
      rw [ltK_total (hf a ha) (hf b hb) h q] at z
      omega
section
variable {prog : Program} {w : World} {A : Around} {E : Value → Shared → Prop} {s : Shared}
/-- texts and numbers, as values -/
inductive Ats : List Value → List (Int ⊕ List Nat) → Prop
  | nil : Ats [] []
  | int {n : Int} {t : Tok} {vs : List Value} {as : List (Int ⊕ List Nat)} : Ats vs as → Ats (.int n t :: vs) (.inl n :: as)
  | str {x : Str} {t : Tok} {vs : List Value} {as : List (Int ⊕ List Nat)} : Ats vs as → Ats (.str x t :: vs) (.inr x.cps.toList :: as)
theorem kat_ats {b fin : Bool} {Q : Bool → Shared → Prop} : ∀ {ps qs : List Value} {as bs : List (Int ⊕ List Nat)} (i : Nat), Ats ps as → Ats qs bs → cmpF as bs = true → fin = decide (ps.length < qs.length) → Q (lexLt itemOrd as bs) s → PySem.W.KatLex prog w A b fin Q (ps.zip qs) i s
  | _, _, _, _, i, .nil, .nil, hc, hf, h => by
    have e : fin = false := by rw [hf]; rfl
    subst e
    exact PySem.W.kat_nil h
  | _, _, _, _, i, .nil, .int r, hc, hf, h => by
    have e : fin = true := by rw [hf]; exact decide_eq_true (Nat.succ_pos _)
    subst e
    exact PySem.W.kat_nil h
  | _, _, _, _, i, .nil, .str r, hc, hf, h => by
    have e : fin = true := by rw [hf]; exact decide_eq_true (Nat.succ_pos _)
    subst e
    exact PySem.W.kat_nil h
  | _, _, _, _, i, .int r, .nil, hc, hf, h => by
    have e : fin = false := by rw [hf]; exact decide_eq_false (Nat.not_lt_zero _)
    subst e
    exact PySem.W.kat_nil h
  | _, _, _, _, i, .str r, .nil, hc, hf, h => by
    have e : fin = false := by rw [hf]; exact decide_eq_false (Nat.not_lt_zero _)
    subst e
    exact PySem.W.kat_nil h
  | _, _, _, _, i, .int _, .str _, hc, _, _ => by cases hc
  | _, _, _, _, i, .str _, .int _, hc, _, _ => by cases hc
  | _, _, _, _, i, .int (n := n) (t := t) (vs := ps) r1, .int (n := m) (t := u) (vs := qs) r2, hc, hf, h => by
    have hf' : fin = decide (ps.length < qs.length) := by
      rw [hf]; simp only [List.length_cons, Nat.add_lt_add_iff_right]
    refine PySem.W.kat_cons (wpAny_eqBool_int ?_)
    refine PySem.W.kat_go (fun e => PySem.W.kat_yes ?_) (fun e => PySem.W.kat_no ?_)
    · have hnm : n = m := by simpa using e
      subst hnm
      rw [lex_self] at h
      unfold cmpF at hc
      rw [if_pos rfl] at hc
      exact kat_ats (i + 1) r1 r2 hc hf' h
    · have hnm : ¬ n = m := by simpa using e
      rw [lex_diff (fun x => hnm (Sum.inl.inj x))] at h
      exact oneLt_any_int h
  | _, _, _, _, i, .str (x := x) (t := t) (vs := ps) r1, .str (x := y) (t := u) (vs := qs) r2, hc, hf, h => by
    have hf' : fin = decide (ps.length < qs.length) := by
      rw [hf]; simp only [List.length_cons, Nat.add_lt_add_iff_right]
    refine PySem.W.kat_cons (wpAny_eqBool_str ?_)
    refine PySem.W.kat_go (fun e => PySem.W.kat_yes ?_) (fun e => PySem.W.kat_no ?_)
    · have hxy : x = y := of_decide_eq_true e
      subst hxy
      rw [lex_self] at h
      unfold cmpF at hc
      rw [if_pos rfl] at hc
      exact kat_ats (i + 1) r1 r2 hc hf' h
    · have hxy : ¬ x = y := of_decide_eq_false e
      have hne : x.cps.toList ≠ y.cps.toList := by
        intro hl
        apply hxy
        have hc : x.cps = y.cps := Array.toList_inj.mp hl
        cases x; cases y
        simp only [Str.mk.injEq]
        exact hc
      rw [lex_diff (fun z => hne (Sum.inr.inj z))] at h
      exact oneLt_any_str h
/-- a key's tuple, in a heap -/
def KeyT (h : Heap) (k : NestedKey) (b : Addr) : Prop := ∃ o vs n as, h.get? b = some o ∧ o.cls = .type "tuple" ∧ o.data = .seq vs n ∧ Ats vs.toList as ∧ flatK k = as
theorem swo_rank (r : Value → Int) : SrtO.Swo fun v u => decide (r v < r u) := by
  refine ⟨fun x y h => ?_, fun x y z h1 h2 => ?_⟩
  · have := of_decide_eq_true h
    exact decide_eq_false (by omega)
  · have a := of_decide_eq_false h1
    have b := of_decide_eq_false h2
    exact decide_eq_false (by omega)
/-- sorted, of what is in a list already -/
theorem sort_keys {a : Addr} {ks : List NestedKey} {bs : List Addr} {n : Nat} {P : PySem.Fin → Shared → Prop} (ho : s.heap.get? a = some (seqObj "list" (bs.map Value.ref).toArray n)) (hlen : ks.length = bs.length) (hz : ks.length ≤ sizeLine) (hn : ks.Nodup)
    (hf : ∀ k ∈ ks, isFlat k = true) (hc : ∀ k ∈ ks, ∀ j ∈ ks, cmpF (flatK k) (flatK j) = true) (hk : ∀ (i : Nat) (k : NestedKey) (b : Addr), ks[i]? = some k → bs[i]? = some b → KeyT s.heap k b)
    (h : ∀ (out : Array Value) (zs : List (NestedKey × Addr)), zs.Perm (ks.zip bs) → zs.map (·.1) = sortK ks → out.toList = zs.map (fun z => .ref z.2) → P (.done (.ret .none)) { s with heap := sortedHeap s.heap a (bs.map Value.ref) out }) :
    wpAny (model prog w) A (Builtin.«list.sort» ⟨[.ref a], []⟩) P E s := by
  -- the keys by their tuples
  have inj : ∀ (i j : Nat) (k k' : NestedKey) (b : Addr), ks[i]? = some k → bs[i]? = some b → ks[j]? = some k' → bs[j]? = some b → k = k' := fun i j k k' b e1 e2 e3 e4 => by
    obtain ⟨o, vs, m, as, g1, _, g3, g4, g5⟩ := hk i k b e1 e2
    obtain ⟨o', vs', m', as', f1, _, f3, f4, f5⟩ := hk j k' b e3 e4
    rw [g1] at f1
    cases f1
    rw [g3] at f3
    cases f3
    have ea : as = as' := by
      clear g1 g3 g5 f5
      generalize vs.toList = l at g4 f4
      induction g4 generalizing as' with
      | nil => cases f4; rfl
      | int _ ih => cases f4 with | int r => rw [ih _ r]
      | str _ ih => cases f4 with | str r => rw [ih _ r]
    exact flat_inj (hf k (List.mem_of_getElem? e1)) (hf k' (List.mem_of_getElem? e3)) (by rw [g5, f5, ea])
  let r : Value → Int := fun v => match v with
    | .ref b => (match (ks.zip bs).find? fun z => decide (z.2 = b) with
      | some z => rankK ks z.1
      | none => 0)
    | _ => 0
  have hr : ∀ (i : Nat) (k : NestedKey) (b : Addr), ks[i]? = some k → bs[i]? = some b → r (.ref b) = rankK ks k := fun i k b e1 e2 => by
    have hz : (ks.zip bs)[i]? = some (k, b) := by rw [List.getElem?_zip_eq_some]; exact ⟨e1, e2⟩
    show (match (ks.zip bs).find? fun z => decide (z.2 = b) with
      | some z => (rankK ks z.1 : Int)
      | none => 0) = _
    cases q : (ks.zip bs).find? fun z => decide (z.2 = b) with
    | none =>
      have := List.find?_eq_none.mp q (k, b) (List.mem_of_getElem? hz)
      simp at this
    | some z =>
      have z1 := List.mem_of_find?_eq_some q
      have z2 : z.2 = b := by
        have := List.find?_some q
        simpa using this
      obtain ⟨j, hj⟩ := List.mem_iff_getElem?.mp z1
      rw [List.getElem?_zip_eq_some] at hj
      dsimp only
      rw [inj j i z.1 k b hj.1 (by rw [← z2]; exact hj.2) e1 e2]
  have at_ : ∀ v ∈ bs.map Value.ref, ∃ i k b, v = .ref b ∧ ks[i]? = some k ∧ bs[i]? = some b := fun v m => by
    obtain ⟨b, mb, rfl⟩ := List.mem_map.mp m
    obtain ⟨i, hi⟩ := List.mem_iff_getElem?.mp mb
    have hlt := (List.getElem?_eq_some_iff.mp hi).1
    exact ⟨i, ks[i]'(by omega), b, rfl, List.getElem?_eq_getElem _, hi⟩
  refine SrtO.list_sort_ord (swo_rank r) ho (by rw [List.length_map, ← hlen]; exact hz) (fun h2 h' kp => ?_) fun out o1 o2 => ?_
  · have keepT : ∀ {k : NestedKey} {b : Addr}, KeyT s.heap k b → KeyT h' k b := fun {k b} ⟨o, vs, m, as, g1, g2, g3⟩ => by
      refine ⟨o, vs, m, as, kp b o (fun z => ?_) g1, g2, g3⟩
      subst z
      rw [ho] at g1
      cases g1
      have g2 : Value.type "list" = Value.type "tuple" := g2
      injection g2 with g2
      exact absurd g2 (by decide)
    have firsts : ∀ (l : List Addr), (∀ b ∈ l, ∃ k, isFlat k = true ∧ KeyT h' k b) → ∃ fs, PySem.W.KatTups h' (l.map Value.ref) fs ∧ fs.length = l.length ∧ ∀ f ∈ fs, ∃ x t, f = Value.str x t := by
      intro l
      induction l with
      | nil => exact fun _ => ⟨[], PySem.W.KatTups.nil, rfl, fun f m => by cases m⟩
      | cons b l ih =>
        intro hl
        obtain ⟨fs, k1, k2, k3⟩ := ih fun b m => hl b (.tail _ m)
        obtain ⟨k, fk, o, vs, m, as, g1, g2, g3, g4, g5⟩ := hl b (.head _)
        obtain ⟨x, rr, as', rfl, e1, e2⟩ := flat_get fk
        rw [e2] at g5
        subst g5
        obtain ⟨x', t, vs', ev⟩ : ∃ x' t vs', vs.toList = Value.str x' t :: vs' := by
          generalize hG : ((.inr x.cps.toList : Int ⊕ List Nat) :: as') = G at g4
          generalize vs.toList = L at g4
          cases g4 with
          | nil => cases hG
          | int r => cases hG
          | str r => exact ⟨_, _, _, rfl⟩
        refine ⟨Value.str x' t :: fs, PySem.W.KatTups.cons g1 g2 g3 ?_ k1, by simp [k2], fun f m => ?_⟩
        · rw [← Array.getElem?_toList, ev]
          rfl
        · cases m with
          | head => exact ⟨x', t, rfl⟩
          | tail _ m => exact k3 f m
    obtain ⟨fs, t, hl, hi⟩ := firsts bs fun b m => by
      obtain ⟨i, hi⟩ := List.mem_iff_getElem?.mp m
      have hlt := (List.getElem?_eq_some_iff.mp hi).1
      have ek : ks[i]? = some (ks[i]'(by omega)) := List.getElem?_eq_getElem _
      exact ⟨_, hf _ (List.mem_of_getElem? ek), keepT (hk i _ b ek hi)⟩
    refine ⟨tuples' true, fun Q E hq => ?_, fun p q hp hq => ?_⟩
    · refine PySem.W.kat_kind (T := Value.type "str") t (by rw [hl]; simp at h2; omega) (fun f hf => ?_) rfl ?_
      · obtain ⟨x, t, rfl⟩ := hi f hf
        exact PySem.W.Looks.of_pure rfl
      · have e : (Value.type "str" != Value.type "tuple") = true := by first | decide +kernel | rfl | decide
        rw [e]
        exact hq
    · obtain ⟨i, k, b, e1, e2, e3⟩ := at_ _ hp
      obtain ⟨j, k', b', f1, f2, f3⟩ := at_ _ hq
      show wpAny (model prog w) A (keyLt' (tuples' true) p.1 q.1) (fun r2 s' => s' = _ ∧ r2 = decide (r p.1 < r q.1)) (fun _ _ => False) _
      rw [e1, f1, hr i k b e2 e3, hr j k' b' f2 f3, rankK_iff hf (List.mem_of_getElem? e2) (List.mem_of_getElem? f2)]
      obtain ⟨o, vs, m, as, g1, g2, g3, g4, g5⟩ := keepT (hk i k b e2 e3)
      obtain ⟨o', vs', m', as', d1, d2, d3, d4, d5⟩ := keepT (hk j k' b' f2 f3)
      refine PySem.W.kat_lt g1 g3 d1 d3 ?_
      have hcc := hc k (List.mem_of_getElem? e2) k' (List.mem_of_getElem? f2)
      rw [g5, d5] at hcc
      refine kat_ats 0 g4 d4 hcc (by rw [Array.length_toList, Array.length_toList]) ⟨rfl, ?_⟩
      show _ = lexLt itemOrd (flatK k) (flatK k')
      rw [g5, d5]
  · have p := o2.perm
    have o : out.Pairwise fun x y => r x ≤ r y := List.Pairwise.imp (fun {x y} h => by have := of_decide_eq_false h; omega) o1
    have e0 : (ks.zip bs).map (fun z => Value.ref z.2) = bs.map Value.ref := by
      have := List.map_snd_zip (l₁ := ks) (l₂ := bs) (by omega)
      have e : (ks.zip bs).map (fun z => Value.ref z.2) = ((ks.zip bs).map Prod.snd).map Value.ref := by rw [List.map_map]; rfl
      rw [e, this]
    obtain ⟨zs, z1, z2⟩ := perm_lift (fun z : NestedKey × Addr => Value.ref z.2) p (ks.zip bs) e0
    refine h out.toArray zs z1 ?_ (by rw [List.toList_toArray]; exact z2.symm)
    have e1 : (ks.zip bs).map (·.1) = ks := List.map_fst_zip (by omega)
    have pk : (zs.map (·.1)).Perm ks := by
      have := z1.map (·.1)
      rw [e1] at this
      exact this
    refine asc_uniq ?_ (sortK_asc ks hn hf) (pk.trans (sortK_perm ks).symm)
    have nd : (zs.map (·.1)).Nodup := pk.nodup_iff.mpr hn
    have o2 : zs.Pairwise fun x y => r (.ref x.2) ≤ r (.ref y.2) := by
      rw [← z2, List.pairwise_map] at o
      exact o
    have nd2 : zs.Pairwise fun x y => x.1 ≠ y.1 := List.pairwise_map.mp nd
    unfold AscK
    rw [List.pairwise_map]
    refine List.Pairwise.imp_of_mem (fun {x y} hx hy h => ?_) (List.Pairwise.and o2 nd2)
    obtain ⟨i, hi⟩ := List.mem_iff_getElem?.mp (z1.mem_iff.mp hx)
    obtain ⟨j, hj⟩ := List.mem_iff_getElem?.mp (z1.mem_iff.mp hy)
    rw [List.getElem?_zip_eq_some] at hi hj
    have h1 := h.1
    rw [hr i _ _ hi.1 hi.2, hr j _ _ hj.1 hj.2] at h1
    have m1 := List.mem_of_getElem? hi.1
    have m2 := List.mem_of_getElem? hj.1
    cases q : ltK x.1 y.1 with
    | true => rfl
    | false =>
      cases q2 : ltK y.1 x.1 with
      | true => have := rankK_lt m2 q2; omega
      | false => exact absurd (ltK_total (hf _ m1) (hf _ m2) q q2) h.2
end
end Ft
namespace Ft
variable [Wd]
open PySem PySem.Spec L2
open PyProof.Rows hiding St
theorem wrs_at {K : PySem.W.Frag} {φ : Ms} {H : Hp} {ws : List W} {vs : List V} {i : Int} {w : W} (h : WRs K φ H ws vs) (e : atI ws i = some w) : ∃ v, atI vs i = some v ∧ WR K φ H w v := by
  unfold atI at e ⊢
  rw [← h.len]
  cases q : ixN ws.length i with
  | none => rw [q] at e; cases e
  | some j =>
    rw [q] at e
    exact wrs_get h (show ws[j]? = some w from e)
theorem wrs_set {K : PySem.W.Frag} {φ : Ms} {H : Hp} {v : V} {w : W} (r : WR K φ H w v) {ws : List W} {vs : List V} (h : WRs K φ H ws vs) : ∀ n : Nat, WRs K φ H (ws.set n w) (vs.set n v) := by
  induction h with
  | nil => exact fun n => .nil
  | cons h1 h2 ih =>
    intro n
    cases n with
    | zero => exact .cons r h2
    | succ n => exact .cons h1 (ih n)
theorem Out.optW {cl : Nat → Addr} {K : PySem.W.Frag} {W' : WX} {σ : St} {φ : Ms} {H : Hp} {o : Option W} {S : Sto} {Q : VK} (h : Out cl K W' (WR K) σ φ H (Ft.opt o S) Q) (s : SR K φ H S) : ∃ z, o = some z ∧ ∀ v H', Same H H' → WR K φ H' z v → Q v H' := by
  cases o with
  | none => exact h.elim
  | some z =>
    refine ⟨z, rfl, fun v H' e r => ?_⟩
    obtain ⟨s', n⟩ := s.keep e
    exact h φ v H' n s' r
theorem mp_of {K : PySem.W.Frag} {φ : Ms} {H : Hp} {S : Sto} {n : Nat} {a : Addr} {kvs : List (NestedKey × W)} (s : SR K φ H S) (ea : φ.at_[n]? = some a) (e : S[n]? = some (.mp kvs)) : MpR K φ H a kvs ∧ φ.has a := by
  have z := s.at_ n _ a e ea
  exact ⟨z.2, .inl ⟨List.mem_of_getElem? ea, z.1⟩⟩
theorem mpAt_get {S : Sto} {w u : W} {p : Nat × List (NestedKey × W) × NestedKey} (h : mpAt S w u = some p) : ∃ d, w = .ref p.1 ∧ u = .d d ∧ S[p.1]? = some (.mp p.2.1) ∧ keyM d = some p.2.2 ∧ okM p.2.1 p.2.2 = true := by
  unfold mpAt at h
  split at h
  · rename_i n y
    split at h
    · rename_i kvs e
      cases q : keyM y with
      | none => rw [q] at h; cases h
      | some k =>
        rw [q] at h
        have h : (if okM kvs k = true then some (n, kvs, k) else none) = some p := h
        split at h
        · cases h
          exact ⟨y, rfl, rfl, e, q, by assumption⟩
        · cases h
    · cases h
  · cases h
theorem KRN.keys {K : PySem.W.Frag} {φ : Ms} {H : Hp} {ks : List (NestedKey × Addr × Value)} {kvs : List (NestedKey × W)} (h : KRN K φ H ks kvs) : ks.map (·.1) = kvs.map (·.1) := by
  induction h with
  | nil => rfl
  | cons _ _ _ _ _ _ ih => rw [List.map_cons, List.map_cons, ih]
theorem KRN.dps {K : PySem.W.Frag} {φ : Ms} {H : Hp} {ks : List (NestedKey × Addr × Value)} {kvs : List (NestedKey × W)} (h : KRN K φ H ks kvs) : ∀ x ∈ ks, Dp K (hid φ H) (.ref x.2.1) x.1.data := by
  induction h with
  | nil => intro x m; cases m
  | cons h1 _ _ _ _ _ ih =>
    intro x m
    cases m with
    | head => exact h1
    | tail _ m => exact ih x m
section
variable {X : Cx}
/-- d[k] -/
def rMg (K : PySem.W.Frag) : R2 := fun x y H Q => ∃ (φ : Ms) (a : Addr) (kvs : List (NestedKey × W)) (d : D) (k : NestedKey) (w : W), x = .ref a ∧ MpR K φ H a kvs ∧ DR K φ H y d ∧ keyM d = some k ∧ okM kvs k = true ∧ atM kvs k = some w ∧ ∀ v, WR K φ H w v → Q v H
theorem ix_mp (hu : X.A.units + 50 < cLine) (hw : X.w = Wd.w) : IxR X (rMg X.K) := by
  intro value slice pins s σ H x y v u Q I rx ry h hs
  obtain ⟨φ, a, kvs, d, k, w, rfl, hm, rd, ek, ok, e, q⟩ := h
  cases rx
  have hT := (mp_is hw I hm).1
  unfold subscriptTail
  refine wpAny_bind ?_
  rw [getitemInPython_of_ne hT.not_modules]
  refine wpAny_bind (wpAny_specialOf hT PySem.F.slot_dict_getitem.lookup ?_)
  have fin : wpAny (model X.prog X.w) X.A (subscripted slice false (.ref a) u) (fun r s₃ => wpAny (model X.prog X.w) X.A (letTemporaryGo value (.ref a) r >>= fun _ => pure r) (EP X pins σ Q) X.xe s₃) X.xe s := by
    rw [hs]
    refine wpAny_operating (mp_get (by omega) hw I hm rd ek ok e ry fun v u' s' I' rv rw' => ?_)
    exact wpAny_bind (wpAny_letTemporaryGo (wpAny_pure ⟨v, H, I', rv, q v rw'⟩))
  first
    | exact wpAny_pure (wpAny_bind fin)
    | exact wpAny_bind (wpAny_pure (wpAny_bind fin))
    | exact wpAny_bind fin
/-- k in d -/
def rMin (K : PySem.W.Frag) : R2 := fun y x H Q => ∃ (φ : Ms) (a : Addr) (kvs : List (NestedKey × W)) (d : D) (k : NestedKey), x = .ref a ∧ MpR K φ H a kvs ∧ DR K φ H y d ∧ keyM d = some k ∧ okM kvs k = true ∧ Q (.bl (atM kvs k).isSome) H
theorem op_inM (hu : X.A.units + 50 < cLine) (hw : X.w = Wd.w) : OpR X (compareOp .In) (rMin X.K) := by
  intro pins s σ H y x u v Q I ry rx h
  obtain ⟨φ, a, kvs, d, k, rfl, hm, rd, ek, ok, q⟩ := h
  cases rx
  exact mp_in (by omega) hw I hm rd ek ok ry fun s' I' => ⟨.bl _, H, I', rfl, q⟩
def rMnin (K : PySem.W.Frag) : R2 := fun y x H Q => ∃ (φ : Ms) (a : Addr) (kvs : List (NestedKey × W)) (d : D) (k : NestedKey), x = .ref a ∧ MpR K φ H a kvs ∧ DR K φ H y d ∧ keyM d = some k ∧ okM kvs k = true ∧ Q (.bl (!(atM kvs k).isSome)) H
theorem op_ninM (hu : X.A.units + 50 < cLine) (hw : X.w = Wd.w) : OpR X (compareOp .NotIn) (rMnin X.K) := by
  intro pins s σ H y x u v Q I ry rx h
  obtain ⟨φ, a, kvs, d, k, rfl, hm, rd, ek, ok, q⟩ := h
  cases rx
  exact mp_notIn (by omega) hw I hm rd ek ok ry fun s' I' => ⟨.bl _, H, I', rfl, q⟩
/-- d[k] = v -/
def rMset (K : PySem.W.Frag) : V → V → V → Hp → (Hp → Prop) → Prop := fun o i v H Q => ∃ (φ : Ms) (a : Addr) (kvs : List (NestedKey × W)) (d : D) (k : NestedKey) (w : W), o = .ref a ∧ φ.has a ∧ MpR K φ H a kvs ∧ DR K φ H i d ∧ keyM d = some k ∧ okM kvs k = true ∧ kvs.length < sizeLine ∧ WR K φ H w v ∧
  ∀ ob, MpR K φ (upd H a ob) a (putM kvs k w) → Q (upd H a ob)
theorem set_mp (hu : X.A.units + 50 < cLine) (hw : X.w = Wd.w) : PSet X (rMset X.K) := by
  intro pins s σ H o i v ov iv u Q I ro ri rv h
  obtain ⟨φ, a, kvs, d, k, w, rfl, ha, hm, rd, ek, ok, hl, rw', q⟩ := h
  cases ro
  exact mp_put (by omega) hw I ha hm rd ek ok hl ri rv rw' fun ob s' m' I' => ⟨_, I', q ob m'⟩
theorem PSet.or {t t' : V → V → V → Hp → (Hp → Prop) → Prop} (h : PSet X t) (h' : PSet X t') : PSet X (fun o i v H Q => t o i v H Q ∨ t' o i v H Q) := by
  intro pins s σ H o i v ov iv u Q I ro ri rv q
  rcases q with q | q
  · exact h pins s σ H o i v ov iv u Q I ro ri rv q
  · exact h' pins s σ H o i v ov iv u Q I ro ri rv q
theorem mp_keys {pins : List (Addr × Obj)} {σ : St} {H : Hp} {s : Shared} {φ : Ms} {a : Addr} {kvs : List (NestedKey × W)} (hw : X.w = Wd.w) (I : L2.Inv X pins σ H s) (h : MpR X.K φ H a kvs) {ob : Obj} {es : Array DictEntry} {ep : Nat} (ho : s.heap.get? a = some ob) (hd : ob.data = .dict es ep) :
    ∃ vs : List V, DpAll X.K (hid φ H) vs (kvs.map fun kv => kv.1.data) ∧ ∀ acc : List Value, acc.length = es.size → (∀ (j : Nat) (v : Value), acc[j]? = some v → ∃ en : DictEntry, es[j]? = some en ∧ v = en.key) → Vals vs acc := by
  rcases h with ⟨ks, h1, h2⟩ | ⟨h0, hl, xs, h1, h2⟩
  · obtain ⟨z, hs, us, rel, o, es', ep', g1, g2, g3, g4, g5, g6⟩ := dk_of I.hok h1
    clear g6
    rw [ho] at g1
    cases g1
    rw [hd] at g3
    cases g3
    refine ⟨ks.map fun kv => kV kv.1, ?_, fun acc hl hk => ?_⟩
    · clear rel g5 h1 z
      induction h2 with
      | nil => exact .nil
      | @cons k v w r s _ _ ih =>
        refine .cons ?_ ih
        cases k with
        | inl i => exact .int i
        | inr x => exact .str x
    · clear h2 h1 z
      have eacc : acc = es.toList.map (·.key) := by
        apply List.ext_getElem?
        intro j
        rw [List.getElem?_map]
        cases hj : acc[j]? with
        | none =>
          have := List.getElem?_eq_none_iff.mp hj
          rw [Array.getElem?_toList, Array.getElem?_eq_none (by omega)]
          rfl
        | some v =>
          obtain ⟨en, e1, e2⟩ := hk j v hj
          rw [Array.getElem?_toList, e1, e2]
          rfl
      rw [eacc]
      clear hk hl eacc hd ho g4
      generalize es.toList = L at g5
      unfold KV at rel
      induction rel generalizing L with
      | nil => cases g5; exact .nil
      | @cons p q ps qs h t ih =>
        cases g5 with
        | @cons e _ L' _ c1 c2 c3 =>
          refine .cons ?_ (ih _ c3)
          obtain ⟨p1, p2⟩ := p
          obtain ⟨q1, q2⟩ := q
          obtain ⟨h1, h2⟩ := h
          have h1 : p1 = q1 := h1
          subst h1
          have c1 : keyIs p1 e.key = true := c1
          cases p1 with
          | inl i =>
            rcases keyIs_shape c1 with ⟨j, t, e1, e2⟩ | ⟨z, t, e1, e2⟩
            · cases e1
              exact ⟨t, e2⟩
            · cases e1
          | inr x =>
            rcases keyIs_shape c1 with ⟨j, t, e1, e2⟩ | ⟨z, t, e1, e2⟩
            · cases e1
            · cases e1
              exact ⟨t, e2⟩
  · have z := (show ObjOk X.prog X.w H s.heap a (NK a xs) from I.hok a _ h1).1
    obtain ⟨o, es', ep', g1, g2, g3, g4, g5⟩ := z
    rw [ho] at g1
    cases g1
    rw [hd] at g3
    cases g3
    refine ⟨xs.map fun x => .ref x.2.1, ?_, fun acc hl hk => ?_⟩
    · clear h1 g4 g5 hl
      induction h2 with
      | nil => exact .nil
      | cons h1 _ _ _ _ _ ih => exact .cons h1 ih
    · have eacc : acc = xs.map fun x => Value.ref x.2.1 := by
        apply List.ext_getElem?
        intro j
        have hz : es[j]? = (xs[j]?).map (entN Wd.w) := by rw [← Array.getElem?_toList, g4, List.getElem?_map]
        have hl2 : es.size = xs.length := by rw [← Array.length_toList, g4, List.length_map]
        rw [List.getElem?_map]
        cases hj : acc[j]? with
        | none =>
          have := List.getElem?_eq_none_iff.mp hj
          rw [List.getElem?_eq_none (by omega)]
          rfl
        | some v =>
          obtain ⟨en, e1, e2⟩ := hk j v hj
          rw [hz] at e1
          cases hx : xs[j]? with
          | none => rw [hx] at e1; cases e1
          | some x =>
            rw [hx] at e1
            cases e1
            rw [e2]
            rfl
      rw [eacc]
      clear eacc hk hl h2 g4 g5 h1
      induction xs with
      | nil => exact .nil
      | cons x r ih => exact .cons rfl ih
/-- list(d) -/
def rMlist (K : PySem.W.Frag) : List V → Hp → VK → Prop := fun us H Q => ∃ (φ : Ms) (a : Addr) (kvs : List (NestedKey × W)), us = [.ref a] ∧ MpR K φ H a kvs ∧ ∀ (p : Addr) (vs : List V), H p = none → DpAll K (hid φ H) vs (kvs.map fun kv => kv.1.data) → Q (.ref p) (upd H p (.lst vs))
theorem call_listM (hw : X.w = Wd.w) (hc : X.calm = true) : CallR X (.type "list") (rMlist X.K) := by
  intro pins s σ H xs us Q I r h
  obtain ⟨φ, a, kvs, rfl, hm, q⟩ := h
  obtain ⟨u, rfl, rx⟩ := r.one
  cases rx
  obtain ⟨ob, es, ep, ho, hx, hd, hs, hsz, hl⟩ := mp_obj hw I hm
  obtain ⟨vs, v1, v2⟩ := mp_keys hw I hm ho hd
  refine PySem.W.kdl_call (kdl_raw hs hx hd) (I.ok.hd hc) ho (by omega) fun h' tk acc' c' kp e it => ?_
  have rv : Vals vs acc'.toList := v2 _ (by rw [Array.length_toList]; exact it.1) fun j v hj => it.2 j v (by rw [← Array.getElem?_toList]; exact hj)
  have hz : vs.length ≤ sizeLine := by rw [dps_len v1, List.length_map]; exact hl
  refine ⟨.ref s.heap.objs.size, _, I.laid (t' := tk) (o := .lst vs) kp (Nat.le_refl _) ?_, rfl, q _ _ (I.hok.fresh (Nat.le_refl _)) v1⟩
  exact ⟨hz, acc'.toList, c', rv, by rw [Array.toArray_toList]; exact e⟩
theorem ats_dp {pins : List (Addr × Obj)} {σ : St} {H : Hp} {s : Shared} : ∀ {ks : List NestedKey} {vs : List V} {us : List Value} {as : List (Int ⊕ List Nat)}, DpAll X.K H vs (NestedKey.datas ks) → Vals vs us → atomsK ks = some as → Ats us as
  | [], _, _, _, h, r, e => by
    cases h
    cases r
    cases e
    exact .nil
  | k :: ks, _, _, as, h, r, e => by
    cases h with
    | cons h1 h2 =>
      cases r with
      | cons r1 r2 =>
        unfold atomsK at e
        split at e
        · rename_i a bs e1 e2
          cases e
          have ih := ats_dp (pins := pins) (σ := σ) (s := s) h2 r2 e2
          cases k with
          | num i =>
            cases e1
            cases h1
            obtain ⟨t, rfl⟩ := r1
            exact .int ih
          | text x =>
            cases e1
            cases h1
            obtain ⟨t, rfl⟩ := r1
            exact .str ih
          | _ => cases e1
        · cases e
theorem keyT_of {pins : List (Addr × Obj)} {σ : St} {H : Hp} {s : Shared} (I : L2.Inv X pins σ H s) {k : NestedKey} {b : Addr} (hf : isFlat k = true) (h : Dp X.K H (.ref b) k.data) : KeyT s.heap k b := by
  obtain ⟨x, r, as, rfl, e1, e2⟩ := flat_get hf
  rw [NestedKey.data] at h
  cases h with
  | tup h1 h2 =>
    obtain ⟨its, rv, ⟨o, ho, hc, n, hd⟩, _⟩ := I.tuple h1
    refine ⟨o, _, n, _, ho, hc, hd, ?_, e2⟩
    refine ats_dp (pins := pins) (σ := σ) (s := s) h2 (by simpa using rv) ?_
    unfold atomsK
    rw [e1]
    rfl
def rMsort (K : PySem.W.Frag) : List V → Hp → VK → Prop := fun us H Q => ∃ (φ : Ms) (a : Addr) (kvs : List (NestedKey × W)) (ds : List D), us = [.ref a] ∧ MpR K φ H a kvs ∧ sortM kvs = some ds ∧ ∀ (p : Addr) (vs : List V), H p = none → DpAll K (hid φ H) vs ds → Q (.ref p) (upd H p (.lst vs))
theorem call_sortM (hw : X.w = Wd.w) (hcalm : X.calm = true) : CallR X (.builtin "sorted") (rMsort X.K) := by
  intro pins s σ H xs us Q I r h
  obtain ⟨φ, a, kvs, ds, rfl, hm, hsd, q⟩ := h
  obtain ⟨u, rfl, rx⟩ := r.one
  cases rx
  unfold sortM at hsd
  dsimp only at hsd
  split at hsd
  rotate_left
  · cases hsd
  rename_i c
  cases hsd
  obtain ⟨hz, hf, hc⟩ := c
  have hf : ∀ k ∈ kvs.map (·.1), isFlat k = true := List.all_eq_true.mp hf
  have hc : ∀ k ∈ kvs.map (·.1), ∀ j ∈ kvs.map (·.1), cmpF (flatK k) (flatK j) = true := fun k hk => List.all_eq_true.mp (List.all_eq_true.mp hc k hk)
  have okt : okM kvs (.tup []) = true := List.all_eq_true.mpr fun kv m => by
    obtain ⟨x, r, as, e, _⟩ := flat_get (hf kv.1 (List.mem_map_of_mem m))
    rw [e]
    rfl
  obtain ⟨hs, hl, ys, ⟨ob, es, ep, ho, hx, hd, hes, his, hnd⟩, kr, _⟩ := mp_tup hw I hm okt rfl
  have hlen : es.size = ys.length := size_of_entries hes
  have eks : ys.map (·.1) = kvs.map (·.1) := kr.keys
  have dpk : ∀ z ∈ (ys.map (·.1)).zip (ys.map fun x => x.2.1), Dp X.K (hid φ H) (.ref z.2) z.1.data := fun z m => by
    rw [List.zip_map'] at m
    obtain ⟨x, mx, rfl⟩ := List.mem_map.mp m
    exact kr.dps x mx
  rw [← eks] at hz hf hc
  have h16 : es.size ≤ sizeLine := by
    rw [hlen]
    rw [List.length_map] at hz
    exact hz
  refine Calls.call_function_entry PyProof.Rows.kind_sorted PyProof.Rows.plain_sorted PyProof.Rows.entry_sorted (PyProof.Rows.args_sorted1 _) ?_
  unfold Builtin.«sorted»
  refine wpAny_bind (m := checkCount "sorted" 1 1 _) (wpAny_pure ?_)
  refine wpAny_bind (PySem.W.kdu_collect (A := X.A.in1) (kdl_raw hs hx hd) (I.ok.hd hcalm) ho h16 fun h' tk acc hk hacc => ?_)
  have hal : acc.toList.length = ys.length := by rw [Array.length_toList, hacc.1, hlen]
  have ea : acc.toList = (ys.map fun x => x.2.1).map Value.ref := by
    apply List.ext_getElem?
    intro j
    have hz : es[j]? = (ys[j]?).map (entryOfKey (nestedKind X.prog X.w)) := by rw [← Array.getElem?_toList, hes, List.getElem?_map]
    rw [List.getElem?_map, List.getElem?_map]
    cases hj : acc.toList[j]? with
    | none =>
      have := List.getElem?_eq_none_iff.mp hj
      rw [List.getElem?_eq_none (by omega)]
      rfl
    | some v =>
      obtain ⟨en, e1, e2⟩ := hacc.2 j v (by rw [← Array.getElem?_toList]; exact hj)
      rw [hz] at e1
      cases hx2 : ys[j]? with
      | none => rw [hx2] at e1; cases e1
      | some x =>
        rw [hx2] at e1
        cases e1
        rw [e2]
        rfl
  have I1 : Inv X pins σ H { s with heap := h', toks := tk } := I.kept hk
  refine wpAny_bind (wpAny_newList ?_ (by rw [hal]; rw [List.length_map] at hz; exact hz))
  have hoL : (h'.push (seqObj "list" acc.toList.toArray 0)).get? h'.objs.size = some (seqObj "list" acc.toList.toArray 0) := Heap.get?_push_size _ rfl
  show wpAny _ _ _ _ _ { s with heap := h'.push (seqObj "list" acc.toList.toArray 0), toks := tk }
  rw [ea] at hoL ⊢
  have kb : ∀ b o, s.heap.get? b = some o → (h'.push (seqObj "list" ((ys.map fun x => x.2.1).map Value.ref).toArray 0)).get? b = some o := fun b o e => Heap.get?_push_of_some _ (hk b o e)
  refine wpAny_bind (wpAny_holding (wpAny_call_entry PyProof.Rows.slot_list_sort ⟨_, hoL, rfl⟩ PyProof.Rows.entry_list_sort
    (sort_keys (ks := ys.map (·.1)) (bs := ys.map fun x => x.2.1) (s := { s with heap := h'.push (seqObj "list" ((ys.map fun x => x.2.1).map Value.ref).toArray 0), toks := tk }) hoL (by simp) hz hnd hf hc (fun i k b e1 e2 => ?_) fun out zs z1 z2 z3 => ⟨_, rfl, ?_⟩) (PyProof.Rows.args_list_sort _)))
  · have hz : ((ys.map (·.1)).zip (ys.map fun x => x.2.1))[i]? = some (k, b) := by rw [List.getElem?_zip_eq_some]; exact ⟨e1, e2⟩
    obtain ⟨o, vs, n, as, g1, g2⟩ := keyT_of I (hf k (List.mem_of_getElem? e1)) (dp_low (dpk _ (List.mem_of_getElem? hz)))
    exact ⟨o, vs, n, as, kb _ _ g1, g2⟩
  · obtain ⟨e', he'⟩ := PyProof.Rows.sortedHeap_at (vs := (ys.map fun x => x.2.1).map Value.ref) (out := out) hoL
    have lz : zs.length = ys.length := by
      rw [z1.length_eq]
      simp
    have hlen2 : (zs.map fun z => V.ref z.2).length ≤ sizeLine := by
      rw [List.length_map, lz, ← hlen]
      exact h16
    have rv : Vals (zs.map fun z => V.ref z.2) out.toList := by
      rw [z3]
      exact vals_maps (fun z : NestedKey × Addr => V.ref z.2) (fun z => Value.ref z.2) zs fun _ _ => rfl
    refine wpAny_pure ⟨_, rfl, .ref h'.objs.size, upd H h'.objs.size (.lst (zs.map fun z => V.ref z.2)), I1.laid (t' := tk) (fun b u e => ?_) (Nat.le_refl _)
      (show ObjOk X.prog X.w _ _ _ (.lst (zs.map fun z => V.ref z.2)) from ⟨hlen2, out.toList, e', rv, by rw [Array.toArray_toList]; exact he'⟩), rfl, q _ _ (I1.hok.fresh (Nat.le_refl _)) ?_⟩
    · have hb : b < h'.objs.size := Heap.lt_size e
      rw [PyProof.Rows.sortedHeap_old (Nat.ne_of_lt hb) (by rw [size_push']; exact Nat.lt_succ_of_lt hb)]
      exact Heap.get?_push_of_some _ e
    · rw [← eks, ← z2]
      have all : ∀ l : List (NestedKey × Addr), (∀ z ∈ l, Dp X.K (hid φ H) (.ref z.2) z.1.data) → DpAll X.K (hid φ H) (l.map fun z => V.ref z.2) ((l.map (·.1)).map NestedKey.data) := by
        intro l
        induction l with
        | nil => exact fun _ => .nil
        | cons z l ih => exact fun h => .cons (h z (.head _)) (ih fun y m => h y (.tail _ m))
      exact all zs fun z m => dpk z (z1.mem_iff.mp m)
end
end Ft
namespace Ft
variable [Wd]
open PySem PySem.Spec L2
theorem at_app {l l' : List Addr} {n : Nat} {b : Addr} (e : l[n]? = some b) : (l ++ l')[n]? = some b := by
  rw [List.getElem?_append_left (List.getElem?_eq_some_iff.mp e).1]; exact e
section
variable {cl : Nat → Addr} {W' : WX} {F : Fs} {X : Cx} {a b c : Expr} {ma mb mc : Ex} {ta tb tc : Te} {pos : Pos}
theorem wipe_set {σ : St} {i : Nat} {x : Option V} : ∀ {vs : List Nat}, i ∈ vs → wipe (σ.set i x) vs = wipe σ vs
  | v :: vs, h => by
    unfold L2.wipe
    by_cases e : v = i
    · subst e
      have : ∀ (vs : List Nat) (σ : St), (wipe (σ.set v x) vs).set v none = (wipe σ vs).set v none := by
        intro vs
        induction vs with
        | nil => intro σ; show (σ.set v x).set v none = σ.set v none; rw [List.set_set]
        | cons u us ih =>
          intro σ
          unfold L2.wipe
          by_cases e2 : u = v
          · subst e2
            rw [List.set_set, List.set_set]
            exact ih σ
          · rw [List.set_comm _ _ e2, ih σ, List.set_comm _ _ (Ne.symm e2)]
      exact this vs σ
    · rw [wipe_set (by rcases List.mem_cons.mp h with z | z; exact absurd z.symm e; exact z)]
theorem wipe_again {σ : St} {vs : List Nat} : ∀ us : List Nat, (∀ u ∈ us, u ∈ vs) → wipe (wipe σ us) vs = wipe σ vs
  | [], _ => rfl
  | u :: us, h => by
    show wipe ((wipe σ us).set u none) vs = _
    rw [wipe_set (h u (List.mem_cons_self ..)), wipe_again us fun v hv => h v (List.mem_cons_of_mem _ hv)]
theorem rg_v {i : Nat} {x : Str} (hN : X.N.Nodup) (hi : X.N[i]? = some x) (hx : Loc X.env.scope x) (hf : X.fn x = true ∨ X.env.scope.names.lookup x = some .local) : PGm F X (.Name x pos) (.v i) := weakG (pg_name hN hi hx hf) fun v σ H Q ⟨τ, S, φ, w, l, s, r, h⟩ => by
  simp only [put] at h
  exact h φ H _ Nx.refl s (l.set r) fun vs hv => wipe_set (hv i (by simp [Tg.slots]))
theorem rgs_nil : PGsm F X [] .e := ⟨fun pins s σ H vs us Q I r ⟨τ, S, φ, xs, l, sr, rx, h⟩ => by
  refine pgs_nil.run pins s σ H vs us Q I r ?_
  simp only [put] at h
  cases xs with
  | nil =>
    cases rx
    exact ⟨rfl, h φ H σ Nx.refl sr l fun _ _ => rfl⟩
  | cons y ys => exact h.elim⟩
theorem rgs_cons {e : Expr} {es : List Expr} {m ms : Tg} (h1 : PGm F X e m) (h2 : PGsm F X es ms) (hs : (assignEach (e :: es) X.env).map (·.2) = assign e X.env :: (assignEach es X.env).map (·.2)) : PGsm F X (e :: es) (.t m ms) := ⟨fun pins s σ H vs us Q I r ⟨τ, S, φ, xs, l, sr, rx, h⟩ => by
  refine (pgs_cons h1 h2 hs).run pins s σ H vs us Q I r ?_
  cases xs with
  | nil => simp only [put] at h
  | cons y ys =>
    cases rx with
    | cons g1 g2 =>
      refine ⟨_, _, rfl, τ, S, φ, .d y, l, sr, g1, ?_⟩
      simp only [put] at h
      dsimp only
      cases q : put F τ S (.d y) m with
      | no => rw [q] at h; exact h
      | exc e S1 => rw [q] at h; exact h
      | ok τ1 S1 =>
        rw [q] at h
        intro φ1 H1 σ1 n1 s1 l1 w1
        refine ⟨τ1, S1, φ1, ys, l1, s1, dps_mono n1.same g2, ?_⟩
        dsimp only
        have h : (match put F τ1 S1 (.d (.tuple ys)) ms with
          | .ok τ' S' => ∀ φ' H' σ', Nx φ H φ' H' → SR X.K φ' H' S' → LR X.K φ' H' τ' σ' → (∀ vs, (∀ i ∈ (Tg.t m ms).slots, i ∈ vs) → wipe σ' vs = wipe σ vs) → Q σ' H'
          | _ => False) := h
        cases q2 : put F τ1 S1 (.d (.tuple ys)) ms with
        | no => rw [q2] at h; exact h
        | exc e S1 => rw [q2] at h; exact h
        | ok τ2 S2 =>
          rw [q2] at h
          exact fun φ2 H2 σ2 n2 s2 l2 w2 => h φ2 H2 σ2 (n1.trans n2) s2 l2 fun vs hv =>
            (w2 vs fun i hi => hv i (List.mem_append_right _ hi)).trans (w1 vs fun i hi => hv i (List.mem_append_left _ hi))⟩
/-- how many a tuple's targets take -/
def Tg.many : Tg → Option Nat
  | .e => some 0
  | .t _ r => r.many.map (· + 1)
  | _ => none
theorem put_len : ∀ {t : Tg} {n : Nat} {τ τ' : Lo} {S S' : Sto} {xs : List D}, t.many = some n → put F τ S (.d (.tuple xs)) t = .ok τ' S' → xs.length = n
  | .e, n, τ, τ', S, S', xs, hn, h => by
    cases hn
    simp only [put] at h
    cases xs with
    | nil => rfl
    | cons y ys => cases h
  | .t l r, n, τ, τ', S, S', xs, hn, h => by
    cases q : r.many with
    | none =>
      unfold Tg.many at hn
      rw [q] at hn
      cases hn
    | some k =>
      unfold Tg.many at hn
      rw [q] at hn
      cases hn
      cases xs with
      | nil => simp only [put] at h; cases h
      | cons y ys =>
        simp only [put] at h
        cases q1 : put F τ S (.d y) l with
        | no => rw [q1] at h; cases h
        | exc e S1 => rw [q1] at h; cases h
        | ok τ1 S1 =>
          rw [q1] at h
          have := put_len q h
          simp [this]
  | .v _, n, _, _, _, _, _, hn, _ => by cases hn
  | .s _ _, n, _, _, _, _, _, hn, _ => by cases hn
  | .u _ _, n, _, _, _, _, _, hn, _ => by cases hn
  | .us _, n, _, _, _, _, _, hn, _ => by cases hn
theorem rg_tup {es : List Expr} {k n : Nat} {m : Tg} (hc : X.calm = true) (h : PGsm F X es m) (hm : m.many = some n) (hn : (assignEach es X.env).length = n) (hst : (assignEach es X.env).findIdx? (·.1) = none) : PGm F X (.Tuple es k pos) m := weakG (pg_tup hc h hn hst) fun v σ H Q ⟨τ, S, φ, w, l, s, r, h⟩ => by
  cases w with
  | ref j =>
    have : ∀ {t : Tg} {n : Nat}, t.many = some n → (match put F τ S (.ref j) t with
      | .ok τ' S' => ∀ φ' H' σ', Nx φ H φ' H' → SR X.K φ' H' S' → LR X.K φ' H' τ' σ' → (∀ vs, (∀ i ∈ m.slots, i ∈ vs) → wipe σ' vs = wipe σ vs) → Q σ' H'
      | _ => False) → False := fun {t n} ht q => by
      cases t with
      | e => simp only [put] at q
      | t a b => simp only [put] at q
      | _ => cases ht
    exact (this hm h).elim
  | d x =>
    dsimp only at h
    cases q : put F τ S (.d x) m with
    | no => rw [q] at h; exact h.elim
    | exc e S1 => rw [q] at h; exact h.elim
    | ok τ1 S1 =>
      have tup : ∃ xs, x = .tuple xs := by
        cases m with
        | v i => cases hm
        | s o i => cases hm
        | u i j => cases hm
        | us is => cases hm
        | e =>
          simp only [put] at q
          cases x with
          | tuple xs => exact ⟨xs, rfl⟩
          | _ => cases q
        | t a b =>
          simp only [put] at q
          cases x with
          | tuple xs => exact ⟨xs, rfl⟩
          | _ => cases q
      obtain ⟨xs, rfl⟩ := tup
      have r' : Dp X.K (hid φ H) v (.tuple xs) := r
      cases r' with
      | tup g1 g2 =>
        refine ⟨_, _, rfl, seqT_mono low g1, ?_, τ, S, φ, xs, l, s, g2, by dsimp only; rw [q]; rw [q] at h; exact h⟩
        rw [dps_len g2]
        exact put_len hm q
theorem rg_u {i j : Nat} {x y : Str} {p1 p2 : Pos} {k : Nat} (hc : X.calm = true) (hN : X.N.Nodup) (hi : X.N[i]? = some x) (hx : Loc X.env.scope x) (hf : X.fn x = true ∨ X.env.scope.names.lookup x = some .local)
    (hj : X.N[j]? = some y) (hy : Loc X.env.scope y) (hg : X.fn y = true ∨ X.env.scope.names.lookup y = some .local) : PGm F X (.Tuple [.Name x p1, .Name y p2] k pos) (.u i j) :=
  weakG (pg_tup (n := 2) hc (pgs_cons (pg_name hN hi hx hf) (pgs_cons (pg_name hN hj hy hg) pgs_nil))) fun v σ H Q ⟨τ, S, φ, w, l, s, r, h⟩ => by
    simp only [put] at h
    cases w with
    | d x => exact h.elim
    | ref n =>
      obtain ⟨a, ea, rfl⟩ := r
      dsimp only at h
      cases q : S[n]? with
      | none => rw [q] at h; exact h.elim
      | some ob =>
        rw [q] at h
        cases ob <;> try exact (show False from h).elim
        rename_i ws
        match ws, h, q with
        | [b1, b2], h, q =>
          obtain ⟨_, vs, e1, e2⟩ := s.at_ n _ a q ea
          cases e2 with
          | cons g1 e2 =>
            cases e2 with
            | cons g2 e2 =>
              cases e2
              refine ⟨a, _, rfl, SqT.of e1, rfl, _, _, rfl, _, _, rfl, rfl, ?_⟩
              exact h φ H _ Nx.refl s ((l.set g1).set g2) fun vs hv => by
                rw [wipe_set (hv j (by simp [Tg.slots])), wipe_set (hv i (by simp [Tg.slots]))]
inductive NamesAt (X : Cx) : List Expr → List Nat → Prop
  | nil : NamesAt X [] []
  | cons {i : Nat} {x : Str} {p : Pos} {es : List Expr} {is : List Nat} : X.N[i]? = some x → Loc X.env.scope x → (X.fn x = true ∨ X.env.scope.names.lookup x = some .local) → NamesAt X es is → NamesAt X (.Name x p :: es) (i :: is)
def gNames : List Nat → TGs
  | [] => gNil
  | i :: r => gCons (gName i) (gNames r)
theorem pgs_names (hN : X.N.Nodup) {es : List Expr} {is : List Nat} (h : NamesAt X es is) : PGs X es (gNames is) := by
  induction h with
  | nil => exact pgs_nil
  | cons h1 h2 h3 _ ih => exact pgs_cons (pg_name hN h1 h2 h3) ih
def setV : St → List Nat → List V → St
  | σ, i :: is, v :: vs => setV (σ.set i (some v)) is vs
  | σ, _, _ => σ
theorem gNames_ok : ∀ (is : List Nat) (vs : List V) (σ : St) (H : Hp) (Q : St → Hp → Prop), vs.length = is.length → Q (setV σ is vs) H → gNames is vs σ H Q
  | [], [], σ, H, Q, _, h => ⟨rfl, h⟩
  | i :: is, v :: vs, σ, H, Q, e, h => ⟨v, vs, rfl, gNames_ok is vs _ H Q (by simpa using e) h⟩
theorem wipe_all {ws : List Nat} : ∀ (is : List Nat) (vs : List V) (σ : St), (∀ i ∈ is, i ∈ ws) → wipe (setV σ is vs) ws = wipe σ ws
  | [], _, σ, _ => by unfold setV; rfl
  | i :: is, [], σ, _ => by unfold setV; rfl
  | i :: is, v :: vs, σ, h => by
    unfold setV
    rw [wipe_all is vs _ fun j hj => h j (.tail _ hj), wipe_set (h i (.head _))]
theorem set_all {φ : Ms} {H : Hp} : ∀ (is : List Nat) (ws : List W) (vs : List V) (τ : Lo) (σ : St), WRs X.K φ H ws vs → LR X.K φ H τ σ → LR X.K φ H (setAll τ is ws) (setV σ is vs)
  | [], ws, vs, τ, σ, r, l => by
    unfold setAll setV
    exact l
  | i :: is, [], _, τ, σ, .nil, l => by
    unfold setAll setV
    exact l
  | i :: is, w :: ws, _, τ, σ, .cons r1 r2, l => by
    unfold setAll setV
    exact set_all is ws _ _ _ r2 (l.set r1)
theorem rg_us {is : List Nat} {es : List Expr} {k : Nat} (hc : X.calm = true) (hN : X.N.Nodup) (h : NamesAt X es is) (hn : (assignEach es X.env).length = is.length) (hst : (assignEach es X.env).findIdx? (·.1) = none) : PGm F X (.Tuple es k pos) (.us is) :=
  weakG (pg_tup hc (pgs_names hN h) hn hst) fun v σ H Q ⟨τ, S, φ, w, l, s, r, h⟩ => by
    simp only [put] at h
    cases w with
    | d x => exact h.elim
    | ref n =>
      obtain ⟨a, ea, rfl⟩ := r
      dsimp only at h
      cases q : S[n]? with
      | none => rw [q] at h; exact h.elim
      | some ob =>
        rw [q] at h
        cases ob <;> try exact (show False from h).elim
        rename_i ws
        dsimp only at h
        obtain ⟨_, vs, e1, e2⟩ := s.at_ n _ a q ea
        by_cases c : ws.length = is.length
        · rw [if_pos c] at h
          exact ⟨a, vs, rfl, SqT.of e1, by rw [← e2.len]; exact c, gNames_ok is vs σ H Q (by rw [← e2.len]; exact c) (h φ H _ Nx.refl s (set_all is ws vs τ σ e2 l) fun us hv => wipe_all is vs σ hv)⟩
        · rw [if_neg c] at h
          exact h.elim
theorem rg_s {o i : Expr} {mo mi : Ex} (hu : X.A.units + 50 < cLine) (hw : X.w = Wd.w) (ho : PEm cl (fun _ _ _ _ => False) F X o mo) (hi : PEm cl (fun _ _ _ _ => False) F X i mi) (ha : ∀ v, assign (.Subscript o i pos) X.env v = (do
      let ov ← holding [v] (eval o X.env)
      let iv ← holding [v, ov] (eval i X.env)
      standAt pos
      holding [v, ov, iv] (setItem ov iv v)
      release [v, ov, iv] [])) : PGm F X (.Subscript o i pos) (.s mo mi) := weakG (pg_sub ho hi (PSet.or set_list (set_mp hu hw)) ha) fun v σ H Q ⟨τ, S, φ, w, l, sr, r, h⟩ => by
  simp only [put] at h
  have dry : ∀ (r : Res W) (k : W → Sto → Res Lo), (match r.dry.bind k with
      | .ok τ' S' => ∀ φ' H' σ', Nx φ H φ' H' → SR X.K φ' H' S' → LR X.K φ' H' τ' σ' → (∀ vs, (∀ i ∈ (Tg.s mo mi).slots, i ∈ vs) → wipe σ' vs = wipe σ vs) → Q σ' H'
      | _ => False) → ∃ w S1, r = .ok w S1 := fun r k z => by
    cases r with
    | no => exact z.elim
    | exc e S1 => exact z.elim
    | ok w S1 => exact ⟨w, S1, rfl⟩
  obtain ⟨wo, S1, q1⟩ := dry _ _ h
  rw [q1] at h
  simp only [Res.dry, Res.bind_ok] at h
  obtain ⟨wi, S2, q2⟩ := dry _ _ h
  rw [q2] at h
  simp only [Res.dry, Res.bind_ok] at h
  refine ⟨τ, S, φ, l, sr, ?_⟩
  show Out cl X.K _ (WR X.K) σ φ H (ev F τ S mo) _
  rw [q1]
  intro φ1 v1 H1 n1 s1 r1
  refine ⟨τ, S1, φ1, l.mono n1, s1, ?_⟩
  show Out cl X.K _ (WR X.K) σ φ1 H1 (ev F τ S1 mi) _
  rw [q2]
  intro φ2 v2 H2 n2 s2 r2
  have nn := n1.trans n2
  have rz := r.mono nn
  cases wo with
  | d x => exact h.elim
  | ref n =>
    cases wi with
    | ref j => exact h.elim
    | d y =>
      obtain ⟨p, ep, rfl⟩ := r1.mono n2
      cases qn : S2[n]? with
      | none =>
        unfold putW at h
        dsimp only at h
        rw [qn] at h
        first | exact h.elim | (dsimp only at h; exact h.elim) | (dsimp only at h)
      | some ob =>
        have up : ∀ (o : HO) (ob2 : Ob), p ∉ φ2.fz → OR' X.K φ2 (upd H2 p o) p ob2 → (match (.ok τ (S2.set n ob2) : Res Lo) with
            | .ok τ' S' => ∀ φ' H' σ', Nx φ H φ' H' → SR X.K φ' H' S' → LR X.K φ' H' τ' σ' → (∀ vs, (∀ i ∈ (Tg.s mo mi).slots, i ∈ vs) → wipe σ' vs = wipe σ vs) → Q σ' H'
            | _ => False) → Q σ (upd H2 p o) := fun o ob2 nf hor z => by
          obtain ⟨s3, n3⟩ := s2.put ep nf hor
          exact z φ2 _ σ (nn.trans n3) s3 (((l.mono n1).mono n2).mono n3) fun _ _ => rfl
        cases ob with
        | dl xs =>
          unfold putW at h
          dsimp only at h
          rw [qn] at h
          try dsimp only at h
          cases y with
          | int k =>
            cases w with
            | ref j => exact h.elim
            | d z =>
              obtain rfl := int_of r2
              try dsimp only at h
              cases qk : ixN xs.length k with
              | none => rw [qk] at h; exact h.elim
              | some j =>
                rw [qk] at h
                obtain ⟨nf, vs, e1, e2⟩ := s2.at_ n _ p qn ep
                refine .inl ⟨p, vs, k, j, rfl, rfl, e1, by rw [dps_len e2]; exact qk, ?_⟩
                exact up (.lst (vs.set j v)) (.dl (xs.set j z)) nf ⟨nf, _, upd_same, dps_mono (up_same (.inl ⟨List.mem_of_getElem? ep, nf⟩)) (dps_set (show Dp X.K (hid φ2 H2) v z from rz) j e2)⟩ h
          | _ => cases w <;> exact h.elim
        | rl ws =>
          unfold putW at h
          dsimp only at h
          rw [qn] at h
          try dsimp only at h
          cases y with
          | int k =>
            obtain rfl := int_of r2
            try dsimp only at h
            cases qk : ixN ws.length k with
            | none => rw [qk] at h; exact h.elim
            | some j =>
              rw [qk] at h
              obtain ⟨nf, vs, e1, e2⟩ := s2.at_ n _ p qn ep
              refine .inl ⟨p, vs, k, j, rfl, rfl, e1, by rw [← e2.len]; exact qk, ?_⟩
              exact up (.lst (vs.set j v)) (.rl (ws.set j w)) nf ⟨nf, _, upd_same, (wrs_set rz e2 j).monog (WR.monog (up_same (.inl ⟨List.mem_of_getElem? ep, nf⟩)) fun _ _ z => z)⟩ h
          | _ => exact h.elim
        | mp kvs =>
          unfold putW at h
          dsimp only at h
          rw [qn] at h
          try dsimp only at h
          cases qk : keyM y with
          | none => rw [qk] at h; exact h.elim
          | some k =>
            rw [qk] at h
            simp only [Option.bind_some] at h
            by_cases c : okM kvs k = true ∧ kvs.length < sizeLine
            · rw [if_pos c] at h
              · obtain ⟨hm, hh⟩ := mp_of s2 ep qn
                refine .inr ⟨φ2, p, kvs, y, k, w, rfl, hh, hm, r2, qk, c.1, c.2, rz, fun ob hob => ?_⟩
                have nf := (s2.at_ n _ p qn ep).1
                exact up ob (.mp (putM kvs k w)) nf ⟨nf, hob⟩ h
            · rw [if_neg c] at h
              exact h.elim
        | _ =>
          unfold putW at h
          dsimp only at h
          rw [qn] at h
          first | exact h.elim | (dsimp only at h; exact h.elim) | (dsimp only at h)
abbrev WF : WX := fun _ _ _ _ => False
theorem Nx.unhide {φ : Ms} {p : Addr} {H H' : Hp} {φ' : Ms} (n : Nx (φ.hide p) H φ' H') : φ' = (⟨φ'.at_, φ.ex, φ'.fz⟩ : Ms).hide p ∧ Nx φ H ⟨φ'.at_, φ.ex, φ'.fz⟩ H' := by
  have e : φ'.ex = p :: φ.ex := n.ex
  refine ⟨?_, ⟨n.pre, rfl, n.fz, n.keep, n.stay⟩⟩
  obtain ⟨a1, a2, a3⟩ := φ'
  have e : a2 = p :: φ.ex := e
  subst e
  rfl
theorem hide_low {φ : Ms} {p : Addr} {H : Hp} : Same (hid (φ.hide p) H) (hid φ H) := fun a o e => by
  obtain ⟨e1, e2⟩ := hid_some e
  refine hid_of (fun m => e1 ?_) e2
  rcases m with m | m
  · exact .inl m
  · exact .inr (List.mem_cons_of_mem _ m)
/-- a later state, the new list at p among its things -/
theorem Nx.over {φ φ' : Ms} {H H' : Hp} (n : Nx φ H φ' H') {p : Addr} (hp : H p = none) (np : p ∉ φ'.at_) {o : HO} : Nx φ H φ' (upd H' p o) := by
  refine ⟨n.pre, n.ex, n.fz, fun a u e m => ?_, fun a e => ?_⟩
  · rw [upd_ne (ne_of_none e hp)]
    exact n.keep a u e m
  · by_cases h : a = p
    · subst h
      exact absurd hp e
    · rw [upd_ne h]
      exact n.stay a e
theorem lc_read {vs : List Nat} {e : Ex} {tg : Tg} {it : Ie} {t : Te} (hsl : ∀ i ∈ tg.slots, i ∈ vs) {σ : St} {H : Hp} {Q : VK} (h : rdE cl X.K W' (fun τ S => ev F τ S (.comp vs e tg it t)) σ H Q) :
    tLc (rdI cl X.K W' fun τ S => evI F τ S it) (rdG X.K tg.slots fun τ S w => put F τ S w tg) (rdT cl X.K WF fun τ S => evT F τ S t) (rdE cl X.K WF fun τ S => ev F τ S e) vs σ H Q := by
  obtain ⟨τ, S, φ, l, sr, h⟩ := h
  simp only [ev] at h
  refine ⟨τ, S, φ, l, sr, h.step fun xs S1 φ1 J H1 _ n1 s1 wk h1 => ?_⟩
  intro D hD
  have nD : ¬ φ1.has D := fun m => s1.there D m hD
  have nDa : D ∉ φ1.at_ := fun m => s1.there0 D m hD
  let cL := fun ys S => compL (fun x S' => put F (wip τ vs) S' (.d x) tg) (fun τ' S' => evT F τ' S' t) (fun τ' S' => ev F τ' S' e) ys S
  -- what is wanted of the list that is made
  let Fin : List PyData → List PyData → Sto → Prop := fun ys zs S2 => (ys ++ zs).length ≤ sizeLine ∧ ∀ φ' H' v, Nx φ1 H1 φ' H' → SR X.K φ' H' S2 → DR X.K φ' H' v (.list (ys ++ zs)) → Q v H'
  let Inv' : Nat → Nat → Hp → Prop := fun i m H2 => m = xs.length - i ∧ i ≤ xs.length ∧ ∃ S2 φ2 acc ys zs S3, Nx φ1 H1 φ2 H2 ∧ D ∉ φ2.at_ ∧ H2 D = some (.lst acc) ∧ DRs X.K (φ2.hide D) H2 acc ys ∧ SR X.K (φ2.hide D) H2 S2 ∧
    cL (xs.drop i) S2 = .ok zs S3 ∧ Fin ys zs S3
  have l1 : LR X.K φ1 H1 (wip τ vs) (wipe σ vs) := (l.mono n1).wip vs
  have smD : ∀ {φ2 H2}, Nx φ1 H1 φ2 H2 → Same (hid φ1 H1) (hid (φ2.hide D) H2) := fun {φ2 H2} n a o q => by
    obtain ⟨q1, q2⟩ := hid_some q
    obtain ⟨q3, q4⟩ := hid_some (n.same a o q)
    refine hid_of (fun m => ?_) q4
    rcases m with m | m
    · exact q3 (.inl m)
    · rcases List.mem_cons.mp m with m | m
      · subst m
        rw [hD] at q2
        cases q2
      · exact q3 (.inr m)
  have lD : ∀ {φ2 H2}, Nx φ1 H1 φ2 H2 → LR X.K (φ2.hide D) H2 (wip τ vs) (wipe σ vs) := fun {φ2 H2} n => by
    refine ⟨l1.len, fun i w q => ?_⟩
    obtain ⟨v, q1, q2⟩ := l1.at_ i w q
    refine ⟨v, q1, ?_⟩
    cases w with
    | d x => exact dp_mono (smD n) (show Dp X.K (hid φ1 H1) v x from q2)
    | ref m =>
      obtain ⟨a, e1, e2⟩ := q2.mono n
      exact ⟨a, e1, e2⟩
  refine ⟨Inv', ⟨xs.length, by simp, Nat.zero_le _, ?_⟩, ?_⟩
  · -- the start
    have sh : SR X.K (φ1.hide D) (upd H1 D (.lst [])) S1 := by
      have sm : Same (hid φ1 H1) (hid (φ1.hide D) (upd H1 D (.lst []))) := smD (Nx.refl.over hD nDa)
      refine ⟨s1.nd, s1.len, fun n ob a e1 e2 => (s1.at_ n ob a e1 e2).to rfl (fun _ _ z => z) (fun o z => same_new hD _ _ z) sm, fun a m => ?_, fun a m => ?_, fun a m => ?_⟩
      · rcases List.mem_cons.mp m with m | m
        · rw [m]; exact nDa
        · exact s1.ap a m
      · rcases List.mem_cons.mp m with m | m
        · rw [m, upd_same]; exact fun z => by cases z
        · rw [upd_ne (fun z => nD (.inr (by rw [← z]; exact m)))]
          exact s1.ext a m
      · have m : a ∈ φ1.fz := m
        have z := s1.fzt a m
        rw [upd_ne (fun y => z (by rw [y]; exact hD))]
        exact z
    have h2 : Out cl X.K W' (WR X.K) σ φ1 H1 ((cL xs S1).dry.bind fun ys S2 => if ys.length ≤ sizeLine then .ok (.d (.list ys)) S2 else .no) Q := h1
    cases q : cL xs S1 with
    | no => rw [q] at h2; exact h2.elim
    | exc e S3 => rw [q] at h2; exact h2.elim
    | ok zs S3 =>
      rw [q] at h2
      have h3 : Out cl X.K W' (WR X.K) σ φ1 H1 (if zs.length ≤ sizeLine then .ok (.d (.list zs)) S3 else .no) Q := h2
      split at h3
      · exact ⟨S1, φ1, [], [], zs, S3, Nx.refl.over hD nDa, nDa, upd_same, .nil, sh, q, by simpa using (by assumption : zs.length ≤ sizeLine), fun φ' H' v n' s' r' => h3 φ' v H' n' s' r'⟩
      · exact h3.elim
  · rintro i m H2 ⟨rfl, hi, S2, φ2, acc, ys, zs, S3, n2, nd2, eD, ra, s2, ec, fl, fk⟩
    have th2 : ∀ a, (φ2.hide D).has a → H2 a ≠ none := s2.there
    obtain ⟨go, stop⟩ := wk (φ2.hide D) H2 (smD n2) th2 i
    by_cases hlt : i < xs.length
    · refine .inr ⟨(go hlt).1, fun H' => ∃ m', m' < xs.length - i ∧ Inv' (i + 1) m' H', fun H' z => z, fun v H3 y => ?_⟩
      obtain ⟨sm3, d, hd, rv⟩ := (go hlt).2 v H3 y
      obtain ⟨s3, n3⟩ := s2.keep sm3
      have ed : xs.drop i = d :: xs.drop (i + 1) := by
        rw [List.drop_eq_getElem_cons hlt]
        rw [List.getElem?_eq_getElem hlt] at hd
        rw [Option.some.inj hd]
      rw [ed] at ec
      have ec : ((put F (wip τ vs) S2 (.d d) tg).bind fun τ S0 => (evT F τ S0 t).bind fun b S1 => if b = true then (ev F τ S1 e).bind fun w S2 => match w with
        | .d y => (cL (xs.drop (i + 1)) S2).bind fun ys S3 => .ok (y :: ys) S3
        | .ref _ => .no
      else cL (xs.drop (i + 1)) S1) = .ok zs S3 := ec
      have n3' := n2.trans (show Nx φ2 H2 φ2 H3 from ⟨⟨[], by simp, by simp⟩, rfl, fun _ z => z, fun a o q _ => sm3 a o q, n3.stay⟩)
      refine ⟨wip τ vs, S2, φ2.hide D, .d d, lD n3', s3, rv, ?_⟩
      dsimp only
      cases q1 : put F (wip τ vs) S2 (.d d) tg with
      | no => rw [q1] at ec; cases ec
      | exc e S1 => rw [q1] at ec; cases ec
      | ok τ4 S4 =>
        rw [q1] at ec
        intro φ4h H4 σ4 n4 s4 l4 w4
        refine ⟨(w4 vs hsl).trans (wipe_again vs fun _ z => z), ?_⟩
        obtain ⟨e4, n4'⟩ := n4.unhide
        generalize hφ4 : (⟨φ4h.at_, φ2.ex, φ4h.fz⟩ : Ms) = φ4 at e4 n4'
        subst e4
        have n14 := n3'.trans n4'
        have eD4 : H4 D = some (.lst acc) := n4.keep D _ (sm3 D _ eD) fun z => nd2 z.1
        have ndD : D ∉ (φ4.hide D).at_ := s4.ap D (List.mem_cons_self ..)
        have ra4 := dps_mono n4.same (dps_mono n3.same ra)
        have ec : ((evT F τ4 S4 t).bind fun b S1 => if b = true then (ev F τ4 S1 e).bind fun w S2 => match w with
          | .d y => (cL (xs.drop (i + 1)) S2).bind fun ys S3 => .ok (y :: ys) S3
          | .ref _ => .no
        else cL (xs.drop (i + 1)) S1) = .ok zs S3 := ec
        refine ⟨τ4, S4, φ4.hide D, l4, s4, ?_⟩
        show Out cl X.K WF eqR σ4 (φ4.hide D) H4 (evT F τ4 S4 t) _
        cases q2 : evT F τ4 S4 t with
        | no => rw [q2] at ec; cases ec
        | exc e S1 => rw [q2] at ec; cases ec
        | ok b5 S5 =>
          rw [q2] at ec
          intro φ5h b5' H5 n5 s5 r5
          cases r5
          obtain ⟨e5, n5'⟩ := n5.unhide
          generalize hφ5 : (⟨φ5h.at_, φ4.ex, φ5h.fz⟩ : Ms) = φ5 at e5 n5'
          subst e5
          have n15 := n14.trans n5'
          have eD5 : H5 D = some (.lst acc) := n5.keep D _ eD4 fun z => ndD z.1
          have ndD5 : D ∉ (φ5.hide D).at_ := s5.ap D (List.mem_cons_self ..)
          have ra5 := dps_mono n5.same ra4
          cases b5 with
          | false => exact ⟨_, by omega, rfl, hlt, S5, φ5, acc, ys, zs, S3, n15, ndD5, eD5, ra5, s5, ec, fl, fk⟩
          | true =>
            have ec : ((ev F τ4 S5 e).bind fun w S2 => match w with
              | .d y => (cL (xs.drop (i + 1)) S2).bind fun ys S3 => .ok (y :: ys) S3
              | .ref _ => .no) = .ok zs S3 := ec
            refine ⟨τ4, S5, φ5.hide D, l4.mono n5, s5, ?_⟩
            show Out cl X.K WF (WR X.K) σ4 (φ5.hide D) H5 (ev F τ4 S5 e) _
            cases q3 : ev F τ4 S5 e with
            | no => rw [q3] at ec; cases ec
            | exc e S1 => rw [q3] at ec; cases ec
            | ok w6 S6 =>
              rw [q3] at ec
              cases w6 with
              | ref n => cases ec
              | d y6 =>
                have ec : ((cL (xs.drop (i + 1)) S6).bind fun ys S3 => .ok (y6 :: ys) S3) = .ok zs S3 := ec
                cases q4 : cL (xs.drop (i + 1)) S6 with
                | no => rw [q4] at ec; cases ec
                | exc e S1 => rw [q4] at ec; cases ec
                | ok zs' S3' =>
                  rw [q4] at ec
                  cases ec
                  intro φ6h v6 H6 n6 s6 r6
                  obtain ⟨e6, n6'⟩ := n6.unhide
                  generalize hφ6 : (⟨φ6h.at_, φ5.ex, φ6h.fz⟩ : Ms) = φ6 at e6 n6'
                  subst e6
                  have n16 := n15.trans n6'
                  have eD6 : H6 D = some (.lst acc) := n6.keep D _ eD5 fun z => ndD5 z.1
                  have ndD6 : D ∉ (φ6.hide D).at_ := s6.ap D (List.mem_cons_self ..)
                  have ra6 := dps_mono n6.same ra5
                  have sm7 : ∀ o, Same (hid (φ6.hide D) H6) (hid (φ6.hide D) (upd H6 D o)) := fun o a u q => by
                    obtain ⟨g1, g2⟩ := hid_some q
                    refine hid_of g1 ?_
                    rw [upd_ne (fun z => g1 (.inr (by rw [z]; exact List.mem_cons_self ..)))]
                    exact g2
                  have fl' : (ys ++ [y6] ++ zs').length ≤ sizeLine := by rw [List.append_assoc]; exact fl
                  refine ⟨acc, eD6, ?_, _, by omega, rfl, hlt, S6, φ6, acc ++ [v6], ys ++ [y6], zs', S3, n16.over hD ndD6, ndD6, upd_same, dps_mono (sm7 _) (dps_app ra6 (.cons r6 .nil)), ?_, q4, fl', fun φ' H' v n' s' r' => fk φ' H' v n' s' (by rw [List.append_assoc] at r'; exact r')⟩
                  · rw [dps_len ra6]
                    simp only [List.length_append, List.length_cons, List.length_nil] at fl'
                    omega
                  · have stay : ∀ a, H6 a ≠ none → upd H6 D (.lst (acc ++ [v6])) a ≠ none := fun a h => by
                      by_cases ha : a = D
                      · rw [ha, upd_same]; exact fun z => by cases z
                      · rw [upd_ne ha]; exact h
                    refine ⟨s6.nd, s6.len, fun n ob a e1 e2 => ?_, s6.ap, fun a m => stay a (s6.ext a m), fun a m => stay a (s6.fzt a m)⟩
                    have na : a ≠ D := fun z => ndD6 (z ▸ List.mem_of_getElem? e2)
                    exact (s6.at_ n ob a e1 e2).to rfl (fun _ _ z => z) (fun o z => by rw [upd_ne na]; exact z) (sm7 _)
    · have ei : i = xs.length := by omega
      subst ei
      refine .inl ⟨stop rfl, ?_⟩
      have ez : zs = [] ∧ S2 = S3 := by
        rw [List.drop_length] at ec
        cases ec
        exact ⟨rfl, rfl⟩
      obtain ⟨rfl, rfl⟩ := ez
      have su : SR X.K φ2 H2 S2 := by
        exact ⟨s2.nd, s2.len, fun n ob a e1 e2 => (s2.at_ n ob a e1 e2).to rfl (fun _ _ z => z) (fun _ z => z) hide_low, fun a m => s2.ap a (List.mem_cons_of_mem _ m), fun a m => s2.ext a (List.mem_cons_of_mem _ m), s2.fzt⟩
      refine fk φ2 H2 (.ref D) n2 su ?_
      rw [List.append_nil]
      refine .lst (SqL.of (hid_of (fun m => ?_) eD)) (dps_mono hide_low ra)
      rcases m with m | m
      · exact nd2 m.1
      · rw [n2.ex] at m
        exact nD (.inr m)
theorem lc_readN {vs : List Nat} {e : Ex} {tg : Tg} {it : Ie} {t : Te} (hsl : ∀ i ∈ tg.slots, i ∈ vs) {σ : St} {H : Hp} {Q : VK} (h : rdE cl X.K W' (fun τ S => ev F τ S (.compN vs e tg it t)) σ H Q) :
    tLc (rdI cl X.K W' fun τ S => evI F τ S it) (rdG X.K tg.slots fun τ S w => put F τ S w tg) (rdT cl X.K WF fun τ S => evT F τ S t) (rdE cl X.K WF fun τ S => ev F τ S e) vs σ H Q := by
  obtain ⟨τ, S, φ, l, sr, h⟩ := h
  simp only [ev] at h
  refine ⟨τ, S, φ, l, sr, h.step fun xs S1 φ1 J H1 _ n1 s1 wk h1 => ?_⟩
  intro D hD
  have nD : ¬ φ1.has D := fun m => s1.there D m hD
  have nDa : D ∉ φ1.at_ := fun m => s1.there0 D m hD
  let cL := fun ys S => compL (fun x S' => put F (wip τ vs) S' (.d x) tg) (fun τ' S' => evT F τ' S' t) (fun τ' S' => ev F τ' S' e) ys S
  -- what is wanted of the list that is made
  let Fin : List PyData → List PyData → Sto → Prop := fun ys zs S2 => (ys ++ zs).length ≤ sizeLine ∧ ∀ φ' H' v, Nx φ1 H1 φ' H' → SR X.K φ' H' (S2 ++ [.dl (ys ++ zs)]) → WR X.K φ' H' (.ref S2.length) v → Q v H'
  let Inv' : Nat → Nat → Hp → Prop := fun i m H2 => m = xs.length - i ∧ i ≤ xs.length ∧ ∃ S2 φ2 acc ys zs S3, Nx φ1 H1 φ2 H2 ∧ D ∉ φ2.at_ ∧ H2 D = some (.lst acc) ∧ DRs X.K (φ2.hide D) H2 acc ys ∧ SR X.K (φ2.hide D) H2 S2 ∧
    cL (xs.drop i) S2 = .ok zs S3 ∧ Fin ys zs S3
  have l1 : LR X.K φ1 H1 (wip τ vs) (wipe σ vs) := (l.mono n1).wip vs
  have smD : ∀ {φ2 H2}, Nx φ1 H1 φ2 H2 → Same (hid φ1 H1) (hid (φ2.hide D) H2) := fun {φ2 H2} n a o q => by
    obtain ⟨q1, q2⟩ := hid_some q
    obtain ⟨q3, q4⟩ := hid_some (n.same a o q)
    refine hid_of (fun m => ?_) q4
    rcases m with m | m
    · exact q3 (.inl m)
    · rcases List.mem_cons.mp m with m | m
      · subst m
        rw [hD] at q2
        cases q2
      · exact q3 (.inr m)
  have lD : ∀ {φ2 H2}, Nx φ1 H1 φ2 H2 → LR X.K (φ2.hide D) H2 (wip τ vs) (wipe σ vs) := fun {φ2 H2} n => by
    refine ⟨l1.len, fun i w q => ?_⟩
    obtain ⟨v, q1, q2⟩ := l1.at_ i w q
    refine ⟨v, q1, ?_⟩
    cases w with
    | d x => exact dp_mono (smD n) (show Dp X.K (hid φ1 H1) v x from q2)
    | ref m =>
      obtain ⟨a, e1, e2⟩ := q2.mono n
      exact ⟨a, e1, e2⟩
  refine ⟨Inv', ⟨xs.length, by simp, Nat.zero_le _, ?_⟩, ?_⟩
  · -- the start
    have sh : SR X.K (φ1.hide D) (upd H1 D (.lst [])) S1 := by
      have sm : Same (hid φ1 H1) (hid (φ1.hide D) (upd H1 D (.lst []))) := smD (Nx.refl.over hD nDa)
      refine ⟨s1.nd, s1.len, fun n ob a e1 e2 => (s1.at_ n ob a e1 e2).to rfl (fun _ _ z => z) (fun o z => same_new hD _ _ z) sm, fun a m => ?_, fun a m => ?_, fun a m => ?_⟩
      · rcases List.mem_cons.mp m with m | m
        · rw [m]; exact nDa
        · exact s1.ap a m
      · rcases List.mem_cons.mp m with m | m
        · rw [m, upd_same]; exact fun z => by cases z
        · rw [upd_ne (fun z => nD (.inr (by rw [← z]; exact m)))]
          exact s1.ext a m
      · have m : a ∈ φ1.fz := m
        have z := s1.fzt a m
        rw [upd_ne (fun y => z (by rw [y]; exact hD))]
        exact z
    have h2 : Out cl X.K W' (WR X.K) σ φ1 H1 ((cL xs S1).dry.bind fun ys S2 => if ys.length ≤ sizeLine then .ok (.ref S2.length) (S2 ++ [.dl ys]) else .no) Q := h1
    cases q : cL xs S1 with
    | no => rw [q] at h2; exact h2.elim
    | exc e S3 => rw [q] at h2; exact h2.elim
    | ok zs S3 =>
      rw [q] at h2
      have h3 : Out cl X.K W' (WR X.K) σ φ1 H1 (if zs.length ≤ sizeLine then .ok (.ref S3.length) (S3 ++ [.dl zs]) else .no) Q := h2
      split at h3
      · exact ⟨S1, φ1, [], [], zs, S3, Nx.refl.over hD nDa, nDa, upd_same, .nil, sh, q, by simpa using (by assumption : zs.length ≤ sizeLine), fun φ' H' v n' s' r' => h3 φ' v H' n' s' r'⟩
      · exact h3.elim
  · rintro i m H2 ⟨rfl, hi, S2, φ2, acc, ys, zs, S3, n2, nd2, eD, ra, s2, ec, fl, fk⟩
    have th2 : ∀ a, (φ2.hide D).has a → H2 a ≠ none := s2.there
    obtain ⟨go, stop⟩ := wk (φ2.hide D) H2 (smD n2) th2 i
    by_cases hlt : i < xs.length
    · refine .inr ⟨(go hlt).1, fun H' => ∃ m', m' < xs.length - i ∧ Inv' (i + 1) m' H', fun H' z => z, fun v H3 y => ?_⟩
      obtain ⟨sm3, d, hd, rv⟩ := (go hlt).2 v H3 y
      obtain ⟨s3, n3⟩ := s2.keep sm3
      have ed : xs.drop i = d :: xs.drop (i + 1) := by
        rw [List.drop_eq_getElem_cons hlt]
        rw [List.getElem?_eq_getElem hlt] at hd
        rw [Option.some.inj hd]
      rw [ed] at ec
      have ec : ((put F (wip τ vs) S2 (.d d) tg).bind fun τ S0 => (evT F τ S0 t).bind fun b S1 => if b = true then (ev F τ S1 e).bind fun w S2 => match w with
        | .d y => (cL (xs.drop (i + 1)) S2).bind fun ys S3 => .ok (y :: ys) S3
        | .ref _ => .no
      else cL (xs.drop (i + 1)) S1) = .ok zs S3 := ec
      have n3' := n2.trans (show Nx φ2 H2 φ2 H3 from ⟨⟨[], by simp, by simp⟩, rfl, fun _ z => z, fun a o q _ => sm3 a o q, n3.stay⟩)
      refine ⟨wip τ vs, S2, φ2.hide D, .d d, lD n3', s3, rv, ?_⟩
      dsimp only
      cases q1 : put F (wip τ vs) S2 (.d d) tg with
      | no => rw [q1] at ec; cases ec
      | exc e S1 => rw [q1] at ec; cases ec
      | ok τ4 S4 =>
        rw [q1] at ec
        intro φ4h H4 σ4 n4 s4 l4 w4
        refine ⟨(w4 vs hsl).trans (wipe_again vs fun _ z => z), ?_⟩
        obtain ⟨e4, n4'⟩ := n4.unhide
        generalize hφ4 : (⟨φ4h.at_, φ2.ex, φ4h.fz⟩ : Ms) = φ4 at e4 n4'
        subst e4
        have n14 := n3'.trans n4'
        have eD4 : H4 D = some (.lst acc) := n4.keep D _ (sm3 D _ eD) fun z => nd2 z.1
        have ndD : D ∉ (φ4.hide D).at_ := s4.ap D (List.mem_cons_self ..)
        have ra4 := dps_mono n4.same (dps_mono n3.same ra)
        have ec : ((evT F τ4 S4 t).bind fun b S1 => if b = true then (ev F τ4 S1 e).bind fun w S2 => match w with
          | .d y => (cL (xs.drop (i + 1)) S2).bind fun ys S3 => .ok (y :: ys) S3
          | .ref _ => .no
        else cL (xs.drop (i + 1)) S1) = .ok zs S3 := ec
        refine ⟨τ4, S4, φ4.hide D, l4, s4, ?_⟩
        show Out cl X.K WF eqR σ4 (φ4.hide D) H4 (evT F τ4 S4 t) _
        cases q2 : evT F τ4 S4 t with
        | no => rw [q2] at ec; cases ec
        | exc e S1 => rw [q2] at ec; cases ec
        | ok b5 S5 =>
          rw [q2] at ec
          intro φ5h b5' H5 n5 s5 r5
          cases r5
          obtain ⟨e5, n5'⟩ := n5.unhide
          generalize hφ5 : (⟨φ5h.at_, φ4.ex, φ5h.fz⟩ : Ms) = φ5 at e5 n5'
          subst e5
          have n15 := n14.trans n5'
          have eD5 : H5 D = some (.lst acc) := n5.keep D _ eD4 fun z => ndD z.1
          have ndD5 : D ∉ (φ5.hide D).at_ := s5.ap D (List.mem_cons_self ..)
          have ra5 := dps_mono n5.same ra4
          cases b5 with
          | false => exact ⟨_, by omega, rfl, hlt, S5, φ5, acc, ys, zs, S3, n15, ndD5, eD5, ra5, s5, ec, fl, fk⟩
          | true =>
            have ec : ((ev F τ4 S5 e).bind fun w S2 => match w with
              | .d y => (cL (xs.drop (i + 1)) S2).bind fun ys S3 => .ok (y :: ys) S3
              | .ref _ => .no) = .ok zs S3 := ec
            refine ⟨τ4, S5, φ5.hide D, l4.mono n5, s5, ?_⟩
            show Out cl X.K WF (WR X.K) σ4 (φ5.hide D) H5 (ev F τ4 S5 e) _
            cases q3 : ev F τ4 S5 e with
            | no => rw [q3] at ec; cases ec
            | exc e S1 => rw [q3] at ec; cases ec
            | ok w6 S6 =>
              rw [q3] at ec
              cases w6 with
              | ref n => cases ec
              | d y6 =>
                have ec : ((cL (xs.drop (i + 1)) S6).bind fun ys S3 => .ok (y6 :: ys) S3) = .ok zs S3 := ec
                cases q4 : cL (xs.drop (i + 1)) S6 with
                | no => rw [q4] at ec; cases ec
                | exc e S1 => rw [q4] at ec; cases ec
                | ok zs' S3' =>
                  rw [q4] at ec
                  cases ec
                  intro φ6h v6 H6 n6 s6 r6
                  obtain ⟨e6, n6'⟩ := n6.unhide
                  generalize hφ6 : (⟨φ6h.at_, φ5.ex, φ6h.fz⟩ : Ms) = φ6 at e6 n6'
                  subst e6
                  have n16 := n15.trans n6'
                  have eD6 : H6 D = some (.lst acc) := n6.keep D _ eD5 fun z => ndD5 z.1
                  have ndD6 : D ∉ (φ6.hide D).at_ := s6.ap D (List.mem_cons_self ..)
                  have ra6 := dps_mono n6.same ra5
                  have sm7 : ∀ o, Same (hid (φ6.hide D) H6) (hid (φ6.hide D) (upd H6 D o)) := fun o a u q => by
                    obtain ⟨g1, g2⟩ := hid_some q
                    refine hid_of g1 ?_
                    rw [upd_ne (fun z => g1 (.inr (by rw [z]; exact List.mem_cons_self ..)))]
                    exact g2
                  have fl' : (ys ++ [y6] ++ zs').length ≤ sizeLine := by rw [List.append_assoc]; exact fl
                  refine ⟨acc, eD6, ?_, _, by omega, rfl, hlt, S6, φ6, acc ++ [v6], ys ++ [y6], zs', S3, n16.over hD ndD6, ndD6, upd_same, dps_mono (sm7 _) (dps_app ra6 (.cons r6 .nil)), ?_, q4, fl', fun φ' H' v n' s' r' => fk φ' H' v n' (by rw [List.append_assoc] at s'; exact s') r'⟩
                  · rw [dps_len ra6]
                    simp only [List.length_append, List.length_cons, List.length_nil] at fl'
                    omega
                  · have stay : ∀ a, H6 a ≠ none → upd H6 D (.lst (acc ++ [v6])) a ≠ none := fun a h => by
                      by_cases ha : a = D
                      · rw [ha, upd_same]; exact fun z => by cases z
                      · rw [upd_ne ha]; exact h
                    refine ⟨s6.nd, s6.len, fun n ob a e1 e2 => ?_, s6.ap, fun a m => stay a (s6.ext a m), fun a m => stay a (s6.fzt a m)⟩
                    have na : a ≠ D := fun z => ndD6 (z ▸ List.mem_of_getElem? e2)
                    exact (s6.at_ n ob a e1 e2).to rfl (fun _ _ z => z) (fun o z => by rw [upd_ne na]; exact z) (sm7 _)
    · have ei : i = xs.length := by omega
      subst ei
      refine .inl ⟨stop rfl, ?_⟩
      have ez : zs = [] ∧ S2 = S3 := by
        rw [List.drop_length] at ec
        cases ec
        exact ⟨rfl, rfl⟩
      obtain ⟨rfl, rfl⟩ := ez
      have su : SR X.K φ2 H2 S2 := by
        exact ⟨s2.nd, s2.len, fun n ob a e1 e2 => (s2.at_ n ob a e1 e2).to rfl (fun _ _ z => z) (fun _ z => z) hide_low, fun a m => s2.ap a (List.mem_cons_of_mem _ m), fun a m => s2.ext a (List.mem_cons_of_mem _ m), s2.fzt⟩
      rw [List.append_nil] at fk
      have nD1 : D ∉ φ1.fz := fun m => s1.fzt D m hD
      let ψ : Ms := ⟨φ2.at_ ++ [D], φ2.ex, φ2.fz.filter fun a => !decide (a = D)⟩
      have mz : ∀ a, a ∈ ψ.fz ↔ a ∈ φ2.fz ∧ a ≠ D := fun a => by
        show a ∈ φ2.fz.filter _ ↔ _
        rw [List.mem_filter]
        simp
      have hs : ∀ a, ψ.has a ↔ (φ2.hide D).has a := fun a => by
        show ((a ∈ φ2.at_ ++ [D] ∧ a ∉ ψ.fz) ∨ a ∈ φ2.ex) ↔ ((a ∈ φ2.at_ ∧ a ∉ φ2.fz) ∨ a ∈ D :: φ2.ex)
        rw [mz a]
        by_cases e : a = D
        · subst e
          simp
        · simp [e]
      have sm : Same (hid (φ2.hide D) H2) (hid ψ H2) := fun a o z => by
        obtain ⟨z1, z2⟩ := hid_some z
        exact hid_of (fun m => z1 ((hs a).mp m)) z2
      have nx : Nx φ1 H1 ψ H2 := by
        obtain ⟨l, p1, p2⟩ := n2.pre
        refine ⟨⟨l ++ [D], by show φ2.at_ ++ [D] = _; rw [p1, List.append_assoc], fun a m => ?_⟩, n2.ex, fun a m => (mz a).mpr ⟨n2.fz a m, fun e => nD1 (e ▸ m)⟩, n2.keep, n2.stay⟩
        rcases List.mem_append.mp m with m | m
        · exact p2 a m
        · rw [List.mem_singleton.mp m]; exact hD
      have sr : SR X.K ψ H2 (S2 ++ [.dl ys]) := by
        refine ⟨?_, by show (φ2.at_ ++ [D]).length = _; rw [List.length_append, List.length_append, su.len]; rfl, fun n ob a e1 e2 => ?_, fun a m => ?_, fun a m => su.ext a m, fun a m => su.fzt a ((mz a).mp m).1⟩
        · show (φ2.at_ ++ [D]).Nodup
          rw [List.nodup_append]
          exact ⟨su.nd, by simp, fun a m b mb e => nd2 (by rw [List.mem_singleton.mp mb] at e; rw [← e]; exact m)⟩
        · have e2 : (φ2.at_ ++ [D])[n]? = some a := e2
          by_cases hn : n < S2.length
          · rw [List.getElem?_append_left hn] at e1
            rw [List.getElem?_append_left (by rw [su.len]; exact hn)] at e2
            have z := s2.at_ n ob a e1 e2
            have na : a ≠ D := fun e => nd2 (e ▸ List.mem_of_getElem? e2)
            cases ob with
            | dl zs =>
              obtain ⟨f1, vs, f2, f3⟩ := z
              exact ⟨fun m => f1 ((mz a).mp m).1, vs, f2, dps_mono sm f3⟩
            | fz zs =>
              obtain ⟨f1, vs, f2, f3⟩ := z
              exact ⟨(mz a).mpr ⟨f1, na⟩, vs, f2, dps_mono sm f3⟩
            | dd zs =>
              obtain ⟨f1, vs, f2, f3⟩ := z
              exact ⟨fun m => f1 ((mz a).mp m).1, vs, f2, f3.mono sm⟩
            | rl zs =>
              obtain ⟨f1, vs, f2, f3⟩ := z
              exact ⟨fun m => f1 ((mz a).mp m).1, vs, f2, f3.monog (WR.monog sm fun n b e => at_app (show φ2.at_[n]? = some b from e))⟩
            | rt zs =>
              obtain ⟨f1, vs, f2, f3⟩ := z
              exact ⟨fun m => f1 ((mz a).mp m).1, vs, f2, f3.monog (WR.monog sm fun n b e => at_app (show φ2.at_[n]? = some b from e))⟩
            | mp zs =>
              obtain ⟨f1, f3⟩ := z
              exact ⟨fun m => f1 ((mz a).mp m).1, f3.mono (WR.monog sm fun n b e => at_app (show φ2.at_[n]? = some b from e)) sm fun _ e => e⟩
            | _ => exact z.elim
          · have hn2 : n = S2.length := by
              have := (List.getElem?_eq_some_iff.mp e1).1
              rw [List.length_append, List.length_singleton] at this
              omega
            subst hn2
            rw [List.getElem?_append_right (Nat.le_refl _), Nat.sub_self] at e1
            rw [List.getElem?_append_right (by rw [su.len]; exact Nat.le_refl _), su.len, Nat.sub_self] at e2
            cases e1
            cases e2
            exact ⟨fun m => ((mz D).mp m).2 rfl, acc, eD, dps_mono sm ra⟩
        · have z := su.ap a m
          show a ∉ φ2.at_ ++ [D]
          intro m2
          rcases List.mem_append.mp m2 with m2 | m2
          · exact z m2
          · rw [List.mem_singleton.mp m2] at m
            rw [n2.ex] at m
            exact nD (.inr m)
      refine fk ψ H2 (.ref D) nx sr ⟨D, ?_, rfl⟩
      show (φ2.at_ ++ [D])[S2.length]? = some D
      rw [List.getElem?_append_right (by rw [su.len]; exact Nat.le_refl _), su.len, Nat.sub_self]
      rfl
theorem putD_len (kvs : List (L2.Key × PyData)) (k : L2.Key) (v : PyData) : (putD kvs k v).length ≤ kvs.length + 1 := by
  unfold putD
  split
  · rw [List.length_map]; omega
  · rw [List.length_append, List.length_singleton]; exact Nat.le_refl _
theorem keyV {K : PySem.W.Frag} {H : Hp} {v : V} {d : PyData} {k : L2.Key} (h : Dp K H v d) (e : keyD d = some k) : v = L2.kV k := by
  cases d with
  | int i => cases h; cases e; rfl
  | str s => cases h; cases e; rfl
  | _ => cases e
theorem dc_read {vs : List Nat} {kx vx : Ex} {tg : Tg} {it : Ie} {t : Te} (hsl : ∀ i ∈ tg.slots, i ∈ vs) {σ : St} {H : Hp} {Q : VK} (h : rdE cl X.K W' (fun τ S => ev F τ S (.dcomp vs kx vx tg it t)) σ H Q) :
    tDc (rdI cl X.K W' fun τ S => evI F τ S it) (rdG X.K tg.slots fun τ S w => put F τ S w tg) (rdT cl X.K WF fun τ S => evT F τ S t) (rdE cl X.K WF fun τ S => ev F τ S kx) (rdE cl X.K WF fun τ S => ev F τ S vx) vs σ H Q := by
  obtain ⟨τ, S, φ, l, sr, h⟩ := h
  simp only [ev] at h
  refine ⟨τ, S, φ, l, sr, h.step fun xs S1 φ1 J H1 _ n1 s1 wk h1 => ?_⟩
  intro D hD
  have nD : ¬ φ1.has D := fun m => s1.there D m hD
  have nDa : D ∉ φ1.at_ := fun m => s1.there0 D m hD
  let cL := fun ys S => compL (fun x S' => put F (wip τ vs) S' (.d x) tg) (fun τ' S' => evT F τ' S' t) (fun τ' S' => (ev F τ' S' kx).bind fun w S2 => (ev F τ' S2 vx).bind fun u S3 => opt (pairW w u) S3) ys S
  -- what is wanted of the list that is made
  let Fin : List (L2.Key × PyData) → List PyData → Sto → Prop := fun ys zs S2 => ys.length + zs.length ≤ sizeLine ∧ ∃ fin, dictOf ys zs = some fin ∧ ∀ φ' H' v, Nx φ1 H1 φ' H' → SR X.K φ' H' (S2 ++ [.dd fin]) → WR X.K φ' H' (.ref S2.length) v → Q v H'
  let Inv' : Nat → Nat → Hp → Prop := fun i m H2 => m = xs.length - i ∧ i ≤ xs.length ∧ ∃ S2 φ2 acc ys zs S3, Nx φ1 H1 φ2 H2 ∧ D ∉ φ2.at_ ∧ H2 D = some (.dK acc) ∧ KR X.K (hid (φ2.hide D) H2) acc ys ∧ SR X.K (φ2.hide D) H2 S2 ∧
    cL (xs.drop i) S2 = .ok zs S3 ∧ Fin ys zs S3
  have l1 : LR X.K φ1 H1 (wip τ vs) (wipe σ vs) := (l.mono n1).wip vs
  have smD : ∀ {φ2 H2}, Nx φ1 H1 φ2 H2 → Same (hid φ1 H1) (hid (φ2.hide D) H2) := fun {φ2 H2} n a o q => by
    obtain ⟨q1, q2⟩ := hid_some q
    obtain ⟨q3, q4⟩ := hid_some (n.same a o q)
    refine hid_of (fun m => ?_) q4
    rcases m with m | m
    · exact q3 (.inl m)
    · rcases List.mem_cons.mp m with m | m
      · subst m
        rw [hD] at q2
        cases q2
      · exact q3 (.inr m)
  have lD : ∀ {φ2 H2}, Nx φ1 H1 φ2 H2 → LR X.K (φ2.hide D) H2 (wip τ vs) (wipe σ vs) := fun {φ2 H2} n => by
    refine ⟨l1.len, fun i w q => ?_⟩
    obtain ⟨v, q1, q2⟩ := l1.at_ i w q
    refine ⟨v, q1, ?_⟩
    cases w with
    | d x => exact dp_mono (smD n) (show Dp X.K (hid φ1 H1) v x from q2)
    | ref m =>
      obtain ⟨a, e1, e2⟩ := q2.mono n
      exact ⟨a, e1, e2⟩
  refine ⟨Inv', ⟨xs.length, by simp, Nat.zero_le _, ?_⟩, ?_⟩
  · -- the start
    have sh : SR X.K (φ1.hide D) (upd H1 D (.dK [])) S1 := by
      have sm : Same (hid φ1 H1) (hid (φ1.hide D) (upd H1 D (.dK []))) := smD (Nx.refl.over hD nDa)
      refine ⟨s1.nd, s1.len, fun n ob a e1 e2 => (s1.at_ n ob a e1 e2).to rfl (fun _ _ z => z) (fun o z => same_new hD _ _ z) sm, fun a m => ?_, fun a m => ?_, fun a m => ?_⟩
      · rcases List.mem_cons.mp m with m | m
        · rw [m]; exact nDa
        · exact s1.ap a m
      · rcases List.mem_cons.mp m with m | m
        · rw [m, upd_same]; exact fun z => by cases z
        · rw [upd_ne (fun z => nD (.inr (by rw [← z]; exact m)))]
          exact s1.ext a m
      · have m : a ∈ φ1.fz := m
        have z := s1.fzt a m
        rw [upd_ne (fun y => z (by rw [y]; exact hD))]
        exact z
    have h2 : Out cl X.K W' (WR X.K) σ φ1 H1 ((cL xs S1).dry.bind fun ys S2 => if ys.length ≤ sizeLine then (match dictOf [] ys with
      | some kvs => .ok (.ref S2.length) (S2 ++ [.dd kvs])
      | none => .no) else .no) Q := h1
    cases q : cL xs S1 with
    | no => rw [q] at h2; exact h2.elim
    | exc e S3 => rw [q] at h2; exact h2.elim
    | ok zs S3 =>
      rw [q] at h2
      have h3 : Out cl X.K W' (WR X.K) σ φ1 H1 (if zs.length ≤ sizeLine then (match dictOf [] zs with
        | some kvs => .ok (.ref S3.length) (S3 ++ [.dd kvs])
        | none => .no) else .no) Q := h2
      by_cases hz : zs.length ≤ sizeLine
      · rw [if_pos hz] at h3
        cases qd : dictOf [] zs with
        | none => rw [qd] at h3; exact h3.elim
        | some fin =>
          rw [qd] at h3
          exact ⟨S1, φ1, [], [], zs, S3, Nx.refl.over hD nDa, nDa, upd_same, .nil, sh, q, by simpa using hz, fin, qd, fun φ' H' v n' s' r' => h3 φ' v H' n' s' r'⟩
      · rw [if_neg hz] at h3
        exact h3.elim
  · rintro i m H2 ⟨rfl, hi, S2, φ2, acc, ys, zs, S3, n2, nd2, eD, ra, s2, ec, fl, fin, fd, fk⟩
    have th2 : ∀ a, (φ2.hide D).has a → H2 a ≠ none := s2.there
    obtain ⟨go, stop⟩ := wk (φ2.hide D) H2 (smD n2) th2 i
    by_cases hlt : i < xs.length
    · refine .inr ⟨(go hlt).1, fun H' => ∃ m', m' < xs.length - i ∧ Inv' (i + 1) m' H', fun H' z => z, fun v H3 y => ?_⟩
      obtain ⟨sm3, d, hd, rv⟩ := (go hlt).2 v H3 y
      obtain ⟨s3, n3⟩ := s2.keep sm3
      have ed : xs.drop i = d :: xs.drop (i + 1) := by
        rw [List.drop_eq_getElem_cons hlt]
        rw [List.getElem?_eq_getElem hlt] at hd
        rw [Option.some.inj hd]
      rw [ed] at ec
      have ec : ((put F (wip τ vs) S2 (.d d) tg).bind fun τ S0 => (evT F τ S0 t).bind fun b S1 => if b = true then ((ev F τ S1 kx).bind fun w S2 => (ev F τ S2 vx).bind fun u S3 => opt (pairW w u) S3).bind fun w S2 => match w with
        | .d y => (cL (xs.drop (i + 1)) S2).bind fun ys S3 => .ok (y :: ys) S3
        | .ref _ => .no
      else cL (xs.drop (i + 1)) S1) = .ok zs S3 := ec
      have n3' := n2.trans (show Nx φ2 H2 φ2 H3 from ⟨⟨[], by simp, by simp⟩, rfl, fun _ z => z, fun a o q _ => sm3 a o q, n3.stay⟩)
      refine ⟨wip τ vs, S2, φ2.hide D, .d d, lD n3', s3, rv, ?_⟩
      dsimp only
      cases q1 : put F (wip τ vs) S2 (.d d) tg with
      | no => rw [q1] at ec; cases ec
      | exc e S1 => rw [q1] at ec; cases ec
      | ok τ4 S4 =>
        rw [q1] at ec
        intro φ4h H4 σ4 n4 s4 l4 w4
        refine ⟨(w4 vs hsl).trans (wipe_again vs fun _ z => z), ?_⟩
        obtain ⟨e4, n4'⟩ := n4.unhide
        generalize hφ4 : (⟨φ4h.at_, φ2.ex, φ4h.fz⟩ : Ms) = φ4 at e4 n4'
        subst e4
        have n14 := n3'.trans n4'
        have eD4 : H4 D = some (.dK acc) := n4.keep D _ (sm3 D _ eD) fun z => nd2 z.1
        have ndD : D ∉ (φ4.hide D).at_ := s4.ap D (List.mem_cons_self ..)
        have ra4 := (ra.mono n3.same).mono n4.same
        have ec : ((evT F τ4 S4 t).bind fun b S1 => if b = true then ((ev F τ4 S1 kx).bind fun w S2 => (ev F τ4 S2 vx).bind fun u S3 => opt (pairW w u) S3).bind fun w S2 => match w with
          | .d y => (cL (xs.drop (i + 1)) S2).bind fun ys S3 => .ok (y :: ys) S3
          | .ref _ => .no
        else cL (xs.drop (i + 1)) S1) = .ok zs S3 := ec
        refine ⟨τ4, S4, φ4.hide D, l4, s4, ?_⟩
        show Out cl X.K WF eqR σ4 (φ4.hide D) H4 (evT F τ4 S4 t) _
        cases q2 : evT F τ4 S4 t with
        | no => rw [q2] at ec; cases ec
        | exc e S1 => rw [q2] at ec; cases ec
        | ok b5 S5 =>
          rw [q2] at ec
          intro φ5h b5' H5 n5 s5 r5
          cases r5
          obtain ⟨e5, n5'⟩ := n5.unhide
          generalize hφ5 : (⟨φ5h.at_, φ4.ex, φ5h.fz⟩ : Ms) = φ5 at e5 n5'
          subst e5
          have n15 := n14.trans n5'
          have eD5 : H5 D = some (.dK acc) := n5.keep D _ eD4 fun z => ndD z.1
          have ndD5 : D ∉ (φ5.hide D).at_ := s5.ap D (List.mem_cons_self ..)
          have ra5 := ra4.mono n5.same
          cases b5 with
          | false => exact ⟨_, by omega, rfl, hlt, S5, φ5, acc, ys, zs, S3, n15, ndD5, eD5, ra5, s5, ec, fl, fin, fd, fk⟩
          | true =>
            have ec : (((ev F τ4 S5 kx).bind fun w S2 => (ev F τ4 S2 vx).bind fun u S3 => opt (pairW w u) S3).bind fun w S2 => match w with
              | .d y => (cL (xs.drop (i + 1)) S2).bind fun ys S3 => .ok (y :: ys) S3
              | .ref _ => .no) = .ok zs S3 := ec
            refine ⟨τ4, S5, φ5.hide D, l4.mono n5, s5, ?_⟩
            show Out cl X.K WF (WR X.K) σ4 (φ5.hide D) H5 (ev F τ4 S5 kx) _
            cases q3 : ev F τ4 S5 kx with
            | no => rw [q3] at ec; cases ec
            | exc e S1 => rw [q3] at ec; cases ec
            | ok w6 S6 =>
              rw [q3] at ec
              have ec : (((ev F τ4 S6 vx).bind fun u S3 => opt (pairW w6 u) S3).bind fun w S2 => match w with
                | .d y => (cL (xs.drop (i + 1)) S2).bind fun ys S3 => .ok (y :: ys) S3
                | .ref _ => .no) = .ok zs S3 := ec
              intro φ6h v6 H6 n6 s6 r6
              obtain ⟨e6, n6'⟩ := n6.unhide
              generalize hφ6 : (⟨φ6h.at_, φ5.ex, φ6h.fz⟩ : Ms) = φ6 at e6 n6'
              subst e6
              have n16 := n15.trans n6'
              have eD6 : H6 D = some (.dK acc) := n6.keep D _ eD5 fun z => ndD5 z.1
              have ndD6 : D ∉ (φ6.hide D).at_ := s6.ap D (List.mem_cons_self ..)
              have ra6 := ra5.mono n6.same
              refine ⟨τ4, S6, φ6.hide D, (l4.mono n5).mono n6, s6, ?_⟩
              show Out cl X.K WF (WR X.K) σ4 (φ6.hide D) H6 (ev F τ4 S6 vx) _
              cases q4 : ev F τ4 S6 vx with
              | no => rw [q4] at ec; cases ec
              | exc e S1 => rw [q4] at ec; cases ec
              | ok u7 S7 =>
                rw [q4] at ec
                have ec : ((opt (pairW w6 u7) S7 : Res W).bind fun w S2 => match w with
                  | .d y => (cL (xs.drop (i + 1)) S2).bind fun ys S3 => .ok (y :: ys) S3
                  | .ref _ => .no) = .ok zs S3 := ec
                intro φ7h v7 H7 n7 s7 r7
                obtain ⟨e7, n7'⟩ := n7.unhide
                generalize hφ7 : (⟨φ7h.at_, φ6.ex, φ7h.fz⟩ : Ms) = φ7 at e7 n7'
                subst e7
                have n17 := n16.trans n7'
                have eD7 : H7 D = some (.dK acc) := n7.keep D _ eD6 fun z => ndD6 z.1
                have ndD7 : D ∉ (φ7.hide D).at_ := s7.ap D (List.mem_cons_self ..)
                have ra7 := ra6.mono n7.same
                cases w6 with
                | ref n => cases u7 <;> cases ec
                | d kd =>
                  cases u7 with
                  | ref n => cases ec
                  | d vd =>
                    cases qk : keyD kd with
                    | none =>
                      have : pairW (.d kd) (.d vd) = none := by
                        show (keyD kd).map _ = none
                        rw [qk]
                        rfl
                      rw [this] at ec
                      cases ec
                    | some kk =>
                      have : pairW (.d kd) (.d vd) = some (.d (.tuple [kd, vd])) := by
                        show (keyD kd).map _ = _
                        rw [qk]
                        rfl
                      rw [this] at ec
                      have ec : ((cL (xs.drop (i + 1)) S7).bind fun ys S3 => .ok (PyData.tuple [kd, vd] :: ys) S3) = .ok zs S3 := ec
                      cases q5 : cL (xs.drop (i + 1)) S7 with
                      | no => rw [q5] at ec; cases ec
                      | exc e S1 => rw [q5] at ec; cases ec
                      | ok zs' S3' =>
                        rw [q5] at ec
                        cases ec
                        have fd' : dictOf (putD ys kk vd) zs' = some fin := by
                          have z : dictOf ys (PyData.tuple [kd, vd] :: zs') = (keyD kd).bind fun k => dictOf (putD ys k vd) zs' := rfl
                          rw [z, qk] at fd
                          exact fd
                        have sm8 : ∀ o, Same (hid (φ7.hide D) H7) (hid (φ7.hide D) (upd H7 D o)) := fun o a u q => by
                          obtain ⟨g1, g2⟩ := hid_some q
                          refine hid_of g1 ?_
                          rw [upd_ne (fun z => g1 (.inr (by rw [z]; exact List.mem_cons_self ..)))]
                          exact g2
                        have hpl := putD_len ys kk vd
                        rw [List.length_cons] at fl
                        refine ⟨acc, kk, keyV (r6 : Dp X.K _ v6 kd) qk, eD7, by rw [ra7.len]; omega, _, by omega, rfl, hlt, S7, φ7, L2.putK acc kk v7, putD ys kk vd, zs', S3, n17.over hD ndD7, ndD7, upd_same, (ra7.put (r7 : Dp X.K _ v7 vd)).mono (sm8 _), ?_, q5, by omega, fin, fd', fk⟩
                        have stay : ∀ a, H7 a ≠ none → upd H7 D (.dK (L2.putK acc kk v7)) a ≠ none := fun a h => by
                          by_cases ha : a = D
                          · rw [ha, upd_same]; exact fun z => by cases z
                          · rw [upd_ne ha]; exact h
                        refine ⟨s7.nd, s7.len, fun n ob a e1 e2 => ?_, s7.ap, fun a m => stay a (s7.ext a m), fun a m => stay a (s7.fzt a m)⟩
                        have na : a ≠ D := fun z => ndD7 (z ▸ List.mem_of_getElem? e2)
                        exact (s7.at_ n ob a e1 e2).to rfl (fun _ _ z => z) (fun o z => by rw [upd_ne na]; exact z) (sm8 _)
    · have ei : i = xs.length := by omega
      subst ei
      refine .inl ⟨stop rfl, ?_⟩
      have ez : zs = [] ∧ S2 = S3 := by
        rw [List.drop_length] at ec
        cases ec
        exact ⟨rfl, rfl⟩
      obtain ⟨rfl, rfl⟩ := ez
      have su : SR X.K φ2 H2 S2 := by
        exact ⟨s2.nd, s2.len, fun n ob a e1 e2 => (s2.at_ n ob a e1 e2).to rfl (fun _ _ z => z) (fun _ z => z) hide_low, fun a m => s2.ap a (List.mem_cons_of_mem _ m), fun a m => s2.ext a (List.mem_cons_of_mem _ m), s2.fzt⟩
      have efin : ys = fin := Option.some.inj fd
      subst efin
      have nD1 : D ∉ φ1.fz := fun m => s1.fzt D m hD
      let ψ : Ms := ⟨φ2.at_ ++ [D], φ2.ex, φ2.fz.filter fun a => !decide (a = D)⟩
      have mz : ∀ a, a ∈ ψ.fz ↔ a ∈ φ2.fz ∧ a ≠ D := fun a => by
        show a ∈ φ2.fz.filter _ ↔ _
        rw [List.mem_filter]
        simp
      have hs : ∀ a, ψ.has a ↔ (φ2.hide D).has a := fun a => by
        show ((a ∈ φ2.at_ ++ [D] ∧ a ∉ ψ.fz) ∨ a ∈ φ2.ex) ↔ ((a ∈ φ2.at_ ∧ a ∉ φ2.fz) ∨ a ∈ D :: φ2.ex)
        rw [mz a]
        by_cases e : a = D
        · subst e
          simp
        · simp [e]
      have sm : Same (hid (φ2.hide D) H2) (hid ψ H2) := fun a o z => by
        obtain ⟨z1, z2⟩ := hid_some z
        exact hid_of (fun m => z1 ((hs a).mp m)) z2
      have nx : Nx φ1 H1 ψ H2 := by
        obtain ⟨l, p1, p2⟩ := n2.pre
        refine ⟨⟨l ++ [D], by show φ2.at_ ++ [D] = _; rw [p1, List.append_assoc], fun a m => ?_⟩, n2.ex, fun a m => (mz a).mpr ⟨n2.fz a m, fun e => nD1 (e ▸ m)⟩, n2.keep, n2.stay⟩
        rcases List.mem_append.mp m with m | m
        · exact p2 a m
        · rw [List.mem_singleton.mp m]; exact hD
      have sr : SR X.K ψ H2 (S2 ++ [.dd ys]) := by
        refine ⟨?_, by show (φ2.at_ ++ [D]).length = _; rw [List.length_append, List.length_append, su.len]; rfl, fun n ob a e1 e2 => ?_, fun a m => ?_, fun a m => su.ext a m, fun a m => su.fzt a ((mz a).mp m).1⟩
        · show (φ2.at_ ++ [D]).Nodup
          rw [List.nodup_append]
          exact ⟨su.nd, by simp, fun a m b mb e => nd2 (by rw [List.mem_singleton.mp mb] at e; rw [← e]; exact m)⟩
        · have e2 : (φ2.at_ ++ [D])[n]? = some a := e2
          by_cases hn : n < S2.length
          · rw [List.getElem?_append_left hn] at e1
            rw [List.getElem?_append_left (by rw [su.len]; exact hn)] at e2
            have z := s2.at_ n ob a e1 e2
            have na : a ≠ D := fun e => nd2 (e ▸ List.mem_of_getElem? e2)
            cases ob with
            | dl zs =>
              obtain ⟨f1, vs, f2, f3⟩ := z
              exact ⟨fun m => f1 ((mz a).mp m).1, vs, f2, dps_mono sm f3⟩
            | fz zs =>
              obtain ⟨f1, vs, f2, f3⟩ := z
              exact ⟨(mz a).mpr ⟨f1, na⟩, vs, f2, dps_mono sm f3⟩
            | dd zs =>
              obtain ⟨f1, vs, f2, f3⟩ := z
              exact ⟨fun m => f1 ((mz a).mp m).1, vs, f2, f3.mono sm⟩
            | rl zs =>
              obtain ⟨f1, vs, f2, f3⟩ := z
              exact ⟨fun m => f1 ((mz a).mp m).1, vs, f2, f3.monog (WR.monog sm fun n b e => at_app (show φ2.at_[n]? = some b from e))⟩
            | rt zs =>
              obtain ⟨f1, vs, f2, f3⟩ := z
              exact ⟨fun m => f1 ((mz a).mp m).1, vs, f2, f3.monog (WR.monog sm fun n b e => at_app (show φ2.at_[n]? = some b from e))⟩
            | mp zs =>
              obtain ⟨f1, f3⟩ := z
              exact ⟨fun m => f1 ((mz a).mp m).1, f3.mono (WR.monog sm fun n b e => at_app (show φ2.at_[n]? = some b from e)) sm fun _ e => e⟩
            | _ => exact z.elim
          · have hn2 : n = S2.length := by
              have := (List.getElem?_eq_some_iff.mp e1).1
              rw [List.length_append, List.length_singleton] at this
              omega
            subst hn2
            rw [List.getElem?_append_right (Nat.le_refl _), Nat.sub_self] at e1
            rw [List.getElem?_append_right (by rw [su.len]; exact Nat.le_refl _), su.len, Nat.sub_self] at e2
            cases e1
            cases e2
            exact ⟨fun m => ((mz D).mp m).2 rfl, acc, eD, ra.mono sm⟩
        · have z := su.ap a m
          show a ∉ φ2.at_ ++ [D]
          intro m2
          rcases List.mem_append.mp m2 with m2 | m2
          · exact z m2
          · rw [List.mem_singleton.mp m2] at m
            rw [n2.ex] at m
            exact nD (.inr m)
      refine fk ψ H2 (.ref D) nx sr ⟨D, ?_, rfl⟩
      show (φ2.at_ ++ [D])[S2.length]? = some D
      rw [List.getElem?_append_right (by rw [su.len]; exact Nat.le_refl _), su.len, Nat.sub_self]
      rfl
theorem LR.keep {K : PySem.W.Frag} {φ : Ms} {H H' : Hp} (e : Same (hid φ H) (hid φ H')) {τ : Lo} {σ : St} (l : LR K φ H τ σ) : LR K φ H' τ σ := ⟨l.len, fun i w q => by
  obtain ⟨v, q1, q2⟩ := l.at_ i w q
  refine ⟨v, q1, ?_⟩
  cases w with
  | d x => exact dp_mono e (show Dp K (hid φ H) v x from q2)
  | ref m => exact q2⟩
theorem lc2_read {vs vs1 : List Nat} {e : Ex} {tg tg1 : Tg} {it it1 : Ie} {t1 : Te} (hsl : ∀ i ∈ tg.slots, i ∈ vs) (hsl1 : ∀ i ∈ tg1.slots, i ∈ vs1) {σ : St} {H : Hp} {Q : VK} (h : rdE cl X.K W' (fun τ S => ev F τ S (.comp2 vs vs1 e tg it tg1 it1 t1)) σ H Q) :
    tLc2 (rdI cl X.K W' fun τ S => evI F τ S it) (rdG X.K tg.slots fun τ S w => put F τ S w tg) (rdT cl X.K WF fun τ S => evT F τ S .tt) (rdI cl X.K WF fun τ S => evI F τ S it1) (rdG X.K tg1.slots fun τ S w => put F τ S w tg1) (rdT cl X.K WF fun τ S => evT F τ S t1) (rdE cl X.K WF fun τ S => ev F τ S e) vs vs1 σ H Q := by
  obtain ⟨τ, S, φ, l, sr, h⟩ := h
  simp only [ev] at h
  refine ⟨τ, S, φ, l, sr, h.step fun xs S1 φ1 J H1 _ n1 s1 wk h1 => ?_⟩
  intro D hD
  have nD : ¬ φ1.has D := fun m => s1.there D m hD
  have nDa : D ∉ φ1.at_ := fun m => s1.there0 D m hD
  let cI := fun (τ' : Lo) ys S => compL (fun x S' => put F (wip τ' vs1) S' (.d x) tg1) (fun τ' S' => evT F τ' S' t1) (fun τ' S' => ev F τ' S' e) ys S
  let cL := fun ys S => compL2 (fun x S' => put F (wip τ vs) S' (.d x) tg) (fun τ' S' => (evI F τ' S' it1).bind fun ys S2 => cI τ' ys S2) ys S
  -- what is wanted of the list that is made
  let Fin : List PyData → List PyData → Sto → Prop := fun ys zs S2 => (ys ++ zs).length ≤ sizeLine ∧ ∀ φ' H' v, Nx φ1 H1 φ' H' → SR X.K φ' H' S2 → DR X.K φ' H' v (.list (ys ++ zs)) → Q v H'
  let Inv' : Nat → Nat → Hp → Prop := fun i m H2 => m = xs.length - i ∧ i ≤ xs.length ∧ ∃ S2 φ2 acc ys zs S3, Nx φ1 H1 φ2 H2 ∧ D ∉ φ2.at_ ∧ H2 D = some (.lst acc) ∧ DRs X.K (φ2.hide D) H2 acc ys ∧ SR X.K (φ2.hide D) H2 S2 ∧
    cL (xs.drop i) S2 = .ok zs S3 ∧ Fin ys zs S3
  have l1 : LR X.K φ1 H1 (wip τ vs) (wipe σ vs) := (l.mono n1).wip vs
  have smD : ∀ {φ2 H2}, Nx φ1 H1 φ2 H2 → Same (hid φ1 H1) (hid (φ2.hide D) H2) := fun {φ2 H2} n a o q => by
    obtain ⟨q1, q2⟩ := hid_some q
    obtain ⟨q3, q4⟩ := hid_some (n.same a o q)
    refine hid_of (fun m => ?_) q4
    rcases m with m | m
    · exact q3 (.inl m)
    · rcases List.mem_cons.mp m with m | m
      · subst m
        rw [hD] at q2
        cases q2
      · exact q3 (.inr m)
  have lD : ∀ {φ2 H2}, Nx φ1 H1 φ2 H2 → LR X.K (φ2.hide D) H2 (wip τ vs) (wipe σ vs) := fun {φ2 H2} n => by
    refine ⟨l1.len, fun i w q => ?_⟩
    obtain ⟨v, q1, q2⟩ := l1.at_ i w q
    refine ⟨v, q1, ?_⟩
    cases w with
    | d x => exact dp_mono (smD n) (show Dp X.K (hid φ1 H1) v x from q2)
    | ref m =>
      obtain ⟨a, e1, e2⟩ := q2.mono n
      exact ⟨a, e1, e2⟩
  refine ⟨Inv', ⟨xs.length, by simp, Nat.zero_le _, ?_⟩, ?_⟩
  · -- the start
    have sh : SR X.K (φ1.hide D) (upd H1 D (.lst [])) S1 := by
      have sm : Same (hid φ1 H1) (hid (φ1.hide D) (upd H1 D (.lst []))) := smD (Nx.refl.over hD nDa)
      refine ⟨s1.nd, s1.len, fun n ob a e1 e2 => (s1.at_ n ob a e1 e2).to rfl (fun _ _ z => z) (fun o z => same_new hD _ _ z) sm, fun a m => ?_, fun a m => ?_, fun a m => ?_⟩
      · rcases List.mem_cons.mp m with m | m
        · rw [m]; exact nDa
        · exact s1.ap a m
      · rcases List.mem_cons.mp m with m | m
        · rw [m, upd_same]; exact fun z => by cases z
        · rw [upd_ne (fun z => nD (.inr (by rw [← z]; exact m)))]
          exact s1.ext a m
      · have m : a ∈ φ1.fz := m
        have z := s1.fzt a m
        rw [upd_ne (fun y => z (by rw [y]; exact hD))]
        exact z
    have h2 : Out cl X.K W' (WR X.K) σ φ1 H1 ((cL xs S1).dry.bind fun ys S2 => if ys.length ≤ sizeLine then .ok (.d (.list ys)) S2 else .no) Q := h1
    cases q : cL xs S1 with
    | no => rw [q] at h2; exact h2.elim
    | exc e S3 => rw [q] at h2; exact h2.elim
    | ok zs S3 =>
      rw [q] at h2
      have h3 : Out cl X.K W' (WR X.K) σ φ1 H1 (if zs.length ≤ sizeLine then .ok (.d (.list zs)) S3 else .no) Q := h2
      split at h3
      · exact ⟨S1, φ1, [], [], zs, S3, Nx.refl.over hD nDa, nDa, upd_same, .nil, sh, q, by simpa using (by assumption : zs.length ≤ sizeLine), fun φ' H' v n' s' r' => h3 φ' v H' n' s' r'⟩
      · exact h3.elim
  · rintro i m H2 ⟨rfl, hi, S2, φ2, acc, ys, zs, S3, n2, nd2, eD, ra, s2, ec, fl, fk⟩
    have th2 : ∀ a, (φ2.hide D).has a → H2 a ≠ none := s2.there
    obtain ⟨go, stop⟩ := wk (φ2.hide D) H2 (smD n2) th2 i
    by_cases hlt : i < xs.length
    · refine .inr ⟨(go hlt).1, fun H' => ∃ m', m' < xs.length - i ∧ Inv' (i + 1) m' H', fun H' z => z, fun v H3 y => ?_⟩
      obtain ⟨sm3, d, hd, rv⟩ := (go hlt).2 v H3 y
      obtain ⟨s3, n3⟩ := s2.keep sm3
      have ed : xs.drop i = d :: xs.drop (i + 1) := by
        rw [List.drop_eq_getElem_cons hlt]
        rw [List.getElem?_eq_getElem hlt] at hd
        rw [Option.some.inj hd]
      rw [ed] at ec
      have ec : ((put F (wip τ vs) S2 (.d d) tg).bind fun τ S0 => ((evI F τ S0 it1).bind fun ys S2 => cI τ ys S2).bind fun ys S1 => (cL (xs.drop (i + 1)) S1).bind fun zs S2 => .ok (ys ++ zs) S2) = .ok zs S3 := ec
      have n3' := n2.trans (show Nx φ2 H2 φ2 H3 from ⟨⟨[], by simp, by simp⟩, rfl, fun _ z => z, fun a o q _ => sm3 a o q, n3.stay⟩)
      refine ⟨wip τ vs, S2, φ2.hide D, .d d, lD n3', s3, rv, ?_⟩
      dsimp only
      cases q1 : put F (wip τ vs) S2 (.d d) tg with
      | no => rw [q1] at ec; cases ec
      | exc e S1 => rw [q1] at ec; cases ec
      | ok τ4 S4 =>
        rw [q1] at ec
        intro φ4h H4 σ4 n4 s4 l4 w4
        refine ⟨(w4 vs hsl).trans (wipe_again vs fun _ z => z), ?_⟩
        obtain ⟨e4, n4'⟩ := n4.unhide
        generalize hφ4 : (⟨φ4h.at_, φ2.ex, φ4h.fz⟩ : Ms) = φ4 at e4 n4'
        subst e4
        have n14 := n3'.trans n4'
        have eD4 : H4 D = some (.lst acc) := n4.keep D _ (sm3 D _ eD) fun z => nd2 z.1
        have ndD : D ∉ (φ4.hide D).at_ := s4.ap D (List.mem_cons_self ..)
        have ra4 := dps_mono n4.same (dps_mono n3.same ra)
        have ec : (((evI F τ4 S4 it1).bind fun ys S2 => cI τ4 ys S2).bind fun ys S1 => (cL (xs.drop (i + 1)) S1).bind fun zs S2 => .ok (ys ++ zs) S2) = .ok zs S3 := ec
        refine ⟨τ4, S4, φ4.hide D, l4, s4, ?_⟩
        show Out cl X.K WF eqR σ4 (φ4.hide D) H4 (.ok true S4) _
        intro φ5h b5' H5 n5 s5 r5
        cases r5
        rw [if_pos rfl]
        obtain ⟨e5, n5'⟩ := n5.unhide
        generalize hφ5 : (⟨φ5h.at_, φ4.ex, φ5h.fz⟩ : Ms) = φ5 at e5 n5'
        subst e5
        have n15 := n14.trans n5'
        have eD5 : H5 D = some (.lst acc) := n5.keep D _ eD4 fun z => ndD z.1
        have ndD5 : D ∉ (φ5.hide D).at_ := s5.ap D (List.mem_cons_self ..)
        have ra5 := dps_mono n5.same ra4
        refine ⟨τ4, S4, φ5.hide D, l4.mono n5, s5, ?_⟩
        show Out cl X.K WF (fun φ' H' xs J => Wk X.K J φ' H' xs) σ4 (φ5.hide D) H5 (evI F τ4 S4 it1) _
        cases q2 : evI F τ4 S4 it1 with
        | no => rw [q2] at ec; cases ec
        | exc e S1 => rw [q2] at ec; cases ec
        | ok xs1 S6 =>
          rw [q2] at ec
          have ec : ((cI τ4 xs1 S6).bind fun ys S1 => (cL (xs.drop (i + 1)) S1).bind fun zs S2 => .ok (ys ++ zs) S2) = .ok zs S3 := ec
          cases q3 : cI τ4 xs1 S6 with
          | no => rw [q3] at ec; cases ec
          | exc e S1 => rw [q3] at ec; cases ec
          | ok zI SI =>
            rw [q3] at ec
            have ec : ((cL (xs.drop (i + 1)) SI).bind fun zs S2 => .ok (zI ++ zs) S2) = .ok zs S3 := ec
            cases q4 : cL (xs.drop (i + 1)) SI with
            | no => rw [q4] at ec; cases ec
            | exc e S1 => rw [q4] at ec; cases ec
            | ok zO SO =>
              rw [q4] at ec
              cases ec
              intro φ6h J1 H6 n6 s6 wk1
              obtain ⟨e6, n6'⟩ := n6.unhide
              generalize hφ6 : (⟨φ6h.at_, φ5.ex, φ6h.fz⟩ : Ms) = φ6 at e6 n6'
              subst e6
              have n16 := n15.trans n6'
              have eD6 : H6 D = some (.lst acc) := n6.keep D _ eD5 fun z => ndD5 z.1
              have ndD6 : D ∉ (φ6.hide D).at_ := s6.ap D (List.mem_cons_self ..)
              have ra6 := dps_mono n6.same ra5
              have l6 := (l4.mono n5).mono n6
              refine ⟨fun j k H => k = xs1.length - j ∧ j ≤ xs1.length ∧ ∃ S7 φ7 acc ys zI, Nx φ1 H1 φ7 H ∧ D ∉ φ7.at_ ∧ H D = some (.lst acc) ∧ DRs X.K (φ7.hide D) H acc ys ∧ SR X.K (φ7.hide D) H S7 ∧ LR X.K (φ7.hide D) H τ4 σ4 ∧
                Same (hid (φ6.hide D) H6) (hid (φ7.hide D) H) ∧ cI τ4 (xs1.drop j) S7 = .ok zI SI ∧ Fin ys (zI ++ zO) S3, ⟨xs1.length, by simp, Nat.zero_le _, S6, φ6, acc, ys, zI, n16, ndD6, eD6, ra6, s6, l6, fun _ _ z => z, q3, fl, fk⟩, ?_⟩
              rintro j k H7 ⟨rfl, hj, S7, φ7, acc7, ys7, zI7, n17, ndD7, eD7, ra7, s7, l7, sm7, ec7, fl7, fk7⟩
              obtain ⟨go1, stop1⟩ := wk1 (φ7.hide D) H7 sm7 s7.there j
              by_cases hlt1 : j < xs1.length
              · refine .inr ⟨(go1 hlt1).1, fun H' => ∃ m', m' < xs1.length - j ∧ (m' = xs1.length - (j + 1) ∧ j + 1 ≤ xs1.length ∧ ∃ S7 φ7 acc ys zI, Nx φ1 H1 φ7 H' ∧ D ∉ φ7.at_ ∧ H' D = some (.lst acc) ∧ DRs X.K (φ7.hide D) H' acc ys ∧ SR X.K (φ7.hide D) H' S7 ∧ LR X.K (φ7.hide D) H' τ4 σ4 ∧
                  Same (hid (φ6.hide D) H6) (hid (φ7.hide D) H') ∧ cI τ4 (xs1.drop (j + 1)) S7 = .ok zI SI ∧ Fin ys (zI ++ zO) S3), fun H' z => z, fun v8 H8 y8 => ?_⟩
                obtain ⟨sm8, d8, hd8, rv8⟩ := (go1 hlt1).2 v8 H8 y8
                obtain ⟨s8, n8⟩ := s7.keep sm8
                have ed8 : xs1.drop j = d8 :: xs1.drop (j + 1) := by
                  rw [List.drop_eq_getElem_cons hlt1]
                  rw [List.getElem?_eq_getElem hlt1] at hd8
                  rw [Option.some.inj hd8]
                rw [ed8] at ec7
                have ec7 : ((put F (wip τ4 vs1) S7 (.d d8) tg1).bind fun τ S0 => (evT F τ S0 t1).bind fun b S1 => if b = true then (ev F τ S1 e).bind fun w S2 => match w with
                  | .d y => (cI τ4 (xs1.drop (j + 1)) S2).bind fun ys S3 => .ok (y :: ys) S3
                  | .ref _ => .no
                else cI τ4 (xs1.drop (j + 1)) S1) = .ok zI7 SI := ec7
                have n8' := n17.trans (show Nx φ7 H7 φ7 H8 from ⟨⟨[], by simp, by simp⟩, rfl, fun _ z => z, fun a o q _ => sm8 a o q, n8.stay⟩)
                have l8 := l7.mono n8
                have hs8 : Same (hid (φ6.hide D) H6) (hid (φ7.hide D) H8) := sm7.trans n8.same
                refine ⟨wip τ4 vs1, S7, φ7.hide D, .d d8, l8.wip vs1, s8, rv8, ?_⟩
                dsimp only
                cases q5 : put F (wip τ4 vs1) S7 (.d d8) tg1 with
                | no => rw [q5] at ec7; cases ec7
                | exc e S1 => rw [q5] at ec7; cases ec7
                | ok τ9 S9 =>
                  rw [q5] at ec7
                  intro φ9h H9 σ9 n9 s9 l9 w9
                  refine ⟨(w9 vs1 hsl1).trans (wipe_again vs1 fun _ z => z), ?_⟩
                  obtain ⟨e9, n9'⟩ := n9.unhide
                  generalize hφ9 : (⟨φ9h.at_, φ7.ex, φ9h.fz⟩ : Ms) = φ9 at e9 n9'
                  subst e9
                  have n19 := n8'.trans n9'
                  have eD9 : H9 D = some (.lst acc7) := n9.keep D _ (sm8 D _ eD7) fun z => ndD7 z.1
                  have ndD9 : D ∉ (φ9.hide D).at_ := s9.ap D (List.mem_cons_self ..)
                  have ra9 := dps_mono n9.same (dps_mono n8.same ra7)
                  have lo9 := l8.mono n9
                  have hs9 : Same (hid (φ6.hide D) H6) (hid (φ9.hide D) H9) := hs8.trans n9.same
                  have ec7 : ((evT F τ9 S9 t1).bind fun b S1 => if b = true then (ev F τ9 S1 e).bind fun w S2 => match w with
                    | .d y => (cI τ4 (xs1.drop (j + 1)) S2).bind fun ys S3 => .ok (y :: ys) S3
                    | .ref _ => .no
                  else cI τ4 (xs1.drop (j + 1)) S1) = .ok zI7 SI := ec7
                  refine ⟨τ9, S9, φ9.hide D, l9, s9, ?_⟩
                  show Out cl X.K WF eqR σ9 (φ9.hide D) H9 (evT F τ9 S9 t1) _
                  cases q6 : evT F τ9 S9 t1 with
                  | no => rw [q6] at ec7; cases ec7
                  | exc e S1 => rw [q6] at ec7; cases ec7
                  | ok bA SA =>
                    rw [q6] at ec7
                    intro φAh bA' HA nA sA rA
                    cases rA
                    obtain ⟨eA, nA'⟩ := nA.unhide
                    generalize hφA : (⟨φAh.at_, φ9.ex, φAh.fz⟩ : Ms) = φA at eA nA'
                    subst eA
                    have n1A := n19.trans nA'
                    have eDA : HA D = some (.lst acc7) := nA.keep D _ eD9 fun z => ndD9 z.1
                    have ndDA : D ∉ (φA.hide D).at_ := sA.ap D (List.mem_cons_self ..)
                    have raA := dps_mono nA.same ra9
                    have loA := lo9.mono nA
                    have hsA : Same (hid (φ6.hide D) H6) (hid (φA.hide D) HA) := hs9.trans nA.same
                    cases bA with
                    | false => exact ⟨_, by omega, rfl, hlt1, SA, φA, acc7, ys7, zI7, n1A, ndDA, eDA, raA, sA, loA, hsA, ec7, fl7, fk7⟩
                    | true =>
                      have ec7 : ((ev F τ9 SA e).bind fun w S2 => match w with
                        | .d y => (cI τ4 (xs1.drop (j + 1)) S2).bind fun ys S3 => .ok (y :: ys) S3
                        | .ref _ => .no) = .ok zI7 SI := ec7
                      refine ⟨τ9, SA, φA.hide D, l9.mono nA, sA, ?_⟩
                      show Out cl X.K WF (WR X.K) σ9 (φA.hide D) HA (ev F τ9 SA e) _
                      cases q7 : ev F τ9 SA e with
                      | no => rw [q7] at ec7; cases ec7
                      | exc e S1 => rw [q7] at ec7; cases ec7
                      | ok wB SB =>
                        rw [q7] at ec7
                        cases wB with
                        | ref n => cases ec7
                        | d yB =>
                          have ec7 : ((cI τ4 (xs1.drop (j + 1)) SB).bind fun ys S3 => .ok (yB :: ys) S3) = .ok zI7 SI := ec7
                          cases q8 : cI τ4 (xs1.drop (j + 1)) SB with
                          | no => rw [q8] at ec7; cases ec7
                          | exc e S1 => rw [q8] at ec7; cases ec7
                          | ok zs' S3' =>
                            rw [q8] at ec7
                            cases ec7
                            intro φBh vB HB nB sB rB
                            obtain ⟨eB, nB'⟩ := nB.unhide
                            generalize hφB : (⟨φBh.at_, φA.ex, φBh.fz⟩ : Ms) = φB at eB nB'
                            subst eB
                            have n1B := n1A.trans nB'
                            have eDB : HB D = some (.lst acc7) := nB.keep D _ eDA fun z => ndDA z.1
                            have ndDB : D ∉ (φB.hide D).at_ := sB.ap D (List.mem_cons_self ..)
                            have raB := dps_mono nB.same raA
                            have smB : ∀ o, Same (hid (φB.hide D) HB) (hid (φB.hide D) (upd HB D o)) := fun o a u q => by
                              obtain ⟨g1, g2⟩ := hid_some q
                              refine hid_of g1 ?_
                              rw [upd_ne (fun z => g1 (.inr (by rw [z]; exact List.mem_cons_self ..)))]
                              exact g2
                            have fl' : (ys7 ++ [yB] ++ (zs' ++ zO)).length ≤ sizeLine := by rw [List.append_assoc]; exact fl7
                            refine ⟨acc7, eDB, ?_, _, by omega, rfl, hlt1, SB, φB, acc7 ++ [vB], ys7 ++ [yB], zs', n1B.over hD ndDB, ndDB, upd_same, dps_mono (smB _) (dps_app raB (.cons rB .nil)), ?_, (loA.mono nB).keep (smB _), (hsA.trans nB.same).trans (smB _), q8, fl', fun φ' H' v n' s' r' => fk7 φ' H' v n' s' (by rw [List.append_assoc] at r'; exact r')⟩
                            · rw [dps_len raB]
                              simp only [List.length_append, List.length_cons, List.length_nil] at fl'
                              omega
                            · have stay : ∀ a, HB a ≠ none → upd HB D (.lst (acc7 ++ [vB])) a ≠ none := fun a h => by
                                by_cases ha : a = D
                                · rw [ha, upd_same]; exact fun z => by cases z
                                · rw [upd_ne ha]; exact h
                              refine ⟨sB.nd, sB.len, fun n ob a e1 e2 => ?_, sB.ap, fun a m => stay a (sB.ext a m), fun a m => stay a (sB.fzt a m)⟩
                              have na : a ≠ D := fun z => ndDB (z ▸ List.mem_of_getElem? e2)
                              exact (sB.at_ n ob a e1 e2).to rfl (fun _ _ z => z) (fun o z => by rw [upd_ne na]; exact z) (smB _)
              · have ej : j = xs1.length := by omega
                subst ej
                refine .inl ⟨stop1 rfl, ?_⟩
                have ez : zI7 = [] ∧ S7 = SI := by
                  rw [List.drop_length] at ec7
                  cases ec7
                  exact ⟨rfl, rfl⟩
                obtain ⟨rfl, rfl⟩ := ez
                exact ⟨_, by omega, rfl, hlt, S7, φ7, acc7, ys7, zO, S3, n17, ndD7, eD7, ra7, s7, q4, fl7, fk7⟩
    · have ei : i = xs.length := by omega
      subst ei
      refine .inl ⟨stop rfl, ?_⟩
      have ez : zs = [] ∧ S2 = S3 := by
        rw [List.drop_length] at ec
        cases ec
        exact ⟨rfl, rfl⟩
      obtain ⟨rfl, rfl⟩ := ez
      have su : SR X.K φ2 H2 S2 := by
        exact ⟨s2.nd, s2.len, fun n ob a e1 e2 => (s2.at_ n ob a e1 e2).to rfl (fun _ _ z => z) (fun _ z => z) hide_low, fun a m => s2.ap a (List.mem_cons_of_mem _ m), fun a m => s2.ext a (List.mem_cons_of_mem _ m), s2.fzt⟩
      refine fk φ2 H2 (.ref D) n2 su ?_
      rw [List.append_nil]
      refine .lst (SqL.of (hid_of (fun m => ?_) eD)) (dps_mono hide_low ra)
      rcases m with m | m
      · exact nd2 m.1
      · rw [n2.ex] at m
        exact nD (.inr m)
end
end Ft
namespace Ft
variable [Wd]
open PySem PySem.Spec L2
section
variable {cl : Nat → Addr} {W' : WX} {F : Fs} {X : Cx} {a b c : Expr} {ma mb mc : Ex} {ta tb tc : Te} {pos : Pos}
/-- in a comprehension's block -/
abbrev InBlk (X : Cx) (scope : Scope) (P : Cx → Prop) : Prop := ∀ (s : Shared) (H : Hp) (C : Addr) (cl : List (Str × Addr)) (fp : List Addr), P (X.blk s H scope (compEnvC scope cl C X.env) fp)
theorem r_comp {elt tgt iter : Expr} {ifs : List Expr} {scope : Scope} {own : List (Str × Nat)} {e : Ex} {tg : Tg} {it : Ie} {t : Te} (hc : X.calm = true) (hN : X.N.Nodup) (hi : PIm cl W' F X tgt iter it) (ok : BlkOk X.N X.env.scope scope own)
    (hg : InBlk X scope fun Y => PGm F Y tgt tg) (ht : InBlk X scope fun Y => PTs Y ifs (rdT cl X.K WF fun τ S => evT F τ S t)) (he : InBlk X scope fun Y => PEm cl WF F Y elt e) (hs : ∀ x, foldedSetIterable iter X.env x = pure x) (hsl : ∀ i ∈ tg.slots, i ∈ own.map (·.2)) :
    PEm cl W' F X (.ListComp elt [⟨tgt, iter, ifs, 0⟩] scope pos) (.comp (own.map (·.2)) e tg it t) := weak (pe_lc hc hN hi ok hg ht he hs) fun σ H Q h => lc_read hsl h
theorem r_compN {elt tgt iter : Expr} {ifs : List Expr} {scope : Scope} {own : List (Str × Nat)} {e : Ex} {tg : Tg} {it : Ie} {t : Te} (hc : X.calm = true) (hN : X.N.Nodup) (hi : PIm cl W' F X tgt iter it) (ok : BlkOk X.N X.env.scope scope own)
    (hg : InBlk X scope fun Y => PGm F Y tgt tg) (ht : InBlk X scope fun Y => PTs Y ifs (rdT cl X.K WF fun τ S => evT F τ S t)) (he : InBlk X scope fun Y => PEm cl WF F Y elt e) (hs : ∀ x, foldedSetIterable iter X.env x = pure x) (hsl : ∀ i ∈ tg.slots, i ∈ own.map (·.2)) :
    PEm cl W' F X (.ListComp elt [⟨tgt, iter, ifs, 0⟩] scope pos) (.compN (own.map (·.2)) e tg it t) := weak (pe_lc hc hN hi ok hg ht he hs) fun σ H Q h => lc_readN hsl h
theorem rts_nil0 {cl : Nat → Addr} {W' : WX} {F : Fs} {X : Cx} : PTs X [] (rdT cl X.K W' fun τ S => evT F τ S .tt) := ⟨fun pins s σ H Q I ⟨τ, S, φ, l, sr, h⟩ => by
  simp only [evT] at h
  exact pts_nil.run pins s σ H Q I (h.now sr rfl)⟩
theorem r_comp2 {elt tgt iter tgt1 iter1 : Expr} {ifs1 : List Expr} {scope : Scope} {own : List (Str × Nat)} {vs1 : List Nat} {e : Ex} {tg tg1 : Tg} {it it1 : Ie} {t1 : Te} (hc : X.calm = true) (hN : X.N.Nodup) (hi : PIm cl W' F X tgt iter it) (ok : BlkOk X.N X.env.scope scope own) (hv : ∀ i ∈ vs1, i ∈ own.map (·.2))
    (hg : InBlk X scope fun Y => PGm F Y tgt tg) (hi1 : InBlk X scope fun Y => PIm cl WF F Y tgt1 iter1 it1) (hg1 : InBlk X scope fun Y => PGm F Y tgt1 tg1) (ht1 : InBlk X scope fun Y => PTs Y ifs1 (rdT cl X.K WF fun τ S => evT F τ S t1)) (he : InBlk X scope fun Y => PEm cl WF F Y elt e)
    (hs : ∀ x, foldedSetIterable iter X.env x = pure x) (hs1 : ∀ env x, foldedSetIterable iter1 env x = pure x) (hsl : ∀ i ∈ tg.slots, i ∈ own.map (·.2)) (hsl1 : ∀ i ∈ tg1.slots, i ∈ vs1) :
    PEm cl W' F X (.ListComp elt [⟨tgt, iter, [], 0⟩, ⟨tgt1, iter1, ifs1, 0⟩] scope pos) (.comp2 (own.map (·.2)) vs1 e tg it tg1 it1 t1) := weak (pe_lc2 hc hN hi ok hv hg (fun _ _ _ _ _ => rts_nil0) hi1 hg1 ht1 he hs hs1) fun σ H Q h => lc2_read hsl hsl1 h
theorem r_dcomp {kx vx tgt iter : Expr} {ifs : List Expr} {scope : Scope} {own : List (Str × Nat)} {mk mv : Ex} {tg : Tg} {it : Ie} {t : Te} (hc : X.calm = true) (hN : X.N.Nodup) (hi : PIm cl W' F X tgt iter it) (ok : BlkOk X.N X.env.scope scope own)
    (hg : InBlk X scope fun Y => PGm F Y tgt tg) (ht : InBlk X scope fun Y => PTs Y ifs (rdT cl X.K WF fun τ S => evT F τ S t)) (hk : InBlk X scope fun Y => PEm cl WF F Y kx mk) (he : InBlk X scope fun Y => PEm cl WF F Y vx mv) (hs : ∀ x, foldedSetIterable iter X.env x = pure x) (hsl : ∀ i ∈ tg.slots, i ∈ own.map (·.2)) :
    PEm cl W' F X (.DictComp kx vx [⟨tgt, iter, ifs, 0⟩] scope pos) (.dcomp (own.map (·.2)) mk mv tg it t) := weak (pe_dc hc hN hi ok hg ht hk he hs) fun σ H Q h => dc_read hsl h
def rInDk : R2 := fun x y H Q => ∃ (a : Addr) (o : Option V), y = V.ref a ∧ DGet H a x o ∧ Q (.bl o.isSome) H
theorem op_inDk (hu : X.A.units + 1 < cLine) : OpR X (compareOp .In) rInDk := by
  intro pins s σ H x y v u Q I rx ry ⟨a, o, e, g, q⟩
  subst e
  cases ry
  exact d_in hu I g rx fun s' I' => ⟨.bl o.isSome, H, I', rfl, q⟩
theorem hasD_at {K : PySem.W.Frag} {φ φ1 : Ms} {H H1 : Hp} {S : Sto} {w u : W} {v v2 : V} {c : Bool} (s : SR K φ H S) (r1 : WR K φ H w v) (r2 : WR K φ H u v2) (h : hasD S w u = some c) :
    (∃ (a : Addr) (o : Option V), v2 = V.ref a ∧ DGet H a v o ∧ o.isSome = c) ∨ ∃ (a : Addr) (kvs : List (NestedKey × W)) (d : D) (k : NestedKey), v2 = .ref a ∧ MpR K φ H a kvs ∧ DR K φ H v d ∧ keyM d = some k ∧ okM kvs k = true ∧ (atM kvs k).isSome = c := by
  cases w with
  | ref n => cases u <;> cases h
  | d x =>
    cases u with
    | d y => cases h
    | ref n =>
      obtain ⟨a, ea, rfl⟩ := r2
      unfold hasD at h
      dsimp only at h
      cases q : S[n]? with
      | none => rw [q] at h; cases h
      | some ob =>
        rw [q] at h
        cases ob with
        | dd kvs =>
          obtain ⟨_, ks, e1, e2⟩ := s.at_ n _ a q ea
          obtain ⟨k, ek, h⟩ := Option.bind_eq_some_iff.mp h
          cases h
          refine .inl ⟨a, valV ks k, rfl, ?_, ?_⟩
          · rw [keyV (r1 : Dp K _ v x) ek]
            exact DGet.k e1
          · rw [← valV_any, e2.any]
        | mp kvs =>
          obtain ⟨k, ek, h⟩ := Option.bind_eq_some_iff.mp h
          by_cases ok : okM kvs k = true
          · rw [if_pos ok] at h
            cases h
            exact .inr ⟨a, kvs, x, k, rfl, (mp_of s ea q).1, r1, ek, ok, rfl⟩
          · rw [if_neg ok] at h
            cases h
        | _ => cases h
theorem r_inD (hu : X.A.units + 50 < cLine) (hw : X.w = Wd.w) (ha : PEm cl W' F X a ma) (hb : PEm cl W' F X b mb) (hm : behindInMarks .In b = false) : PEm cl W' F X (.Compare a [.In] [b] pos) (.inD ma mb) := by
  refine ⟨fun pins s σ H Q I ⟨τ, S, φ, l, sr, h⟩ => ?_⟩
  simp only [ev] at h
  refine (pe_cmpR ((op_inDk (by omega)).or (op_inM hu hw)) ha hb hm).run pins s σ H Q I ?_
  refine ⟨τ, S, φ, l, sr, h.step fun w S1 φ1 v H1 _ n1 s1 r1 h1 => ?_⟩
  refine ⟨τ, S1, φ1, l.mono n1, s1, h1.step fun u S2 φ2 v2 H2 _ n2 s2 r2 h2 => ?_⟩
  cases q : hasD S2 w u with
  | none => rw [q] at h2; exact h2.elim
  | some c =>
    rw [q] at h2
    have fin : Q (.bl c) H2 := h2 φ2 (.bl c) H2 Nx.refl s2 (.bl c)
    rcases hasD_at (φ1 := φ2) (H1 := H2) s2 (r1.mono n2) r2 q with ⟨a', o, e1, e2, e3⟩ | ⟨a', kvs, d, k, e1, e2, e3, e4, e5, e6⟩
    · exact .inl ⟨a', o, e1, e2, by rw [e3]; exact fin⟩
    · exact .inr ⟨φ2, a', kvs, d, k, e1, e2, e3, e4, e5, by rw [e6]; exact fin⟩
theorem r_tinD (hu : X.A.units + 50 < cLine) (hw : X.w = Wd.w) (ha : PEm cl W' F X a ma) (hb : PEm cl W' F X b mb) (hm : behindInMarks .In b = false) : PTm cl W' F X (.Compare a [.In] [b] pos) (.e (.inD ma mb)) := by
  refine ⟨fun pins s σ H Q I ⟨τ, S, φ, l, sr, h⟩ => ?_⟩
  simp only [evT, ev] at h
  refine (pt_cmpR ((op_inDk (by omega)).or (op_inM hu hw)) ha hb hm).run pins s σ H Q I ?_
  have assoc : ∀ (r : Res W) (f : W → Sto → Res W) (g : W → Sto → Res Bool), (r.bind f).bind g = r.bind fun w S => (f w S).bind g := fun r f g => by cases r <;> rfl
  rw [assoc] at h
  refine ⟨τ, S, φ, l, sr, h.step fun w S1 φ1 v H1 _ n1 s1 r1 h1 => ?_⟩
  rw [assoc] at h1
  refine ⟨τ, S1, φ1, l.mono n1, s1, h1.step fun u S2 φ2 v2 H2 _ n2 s2 r2 h2 => ?_⟩
  cases q : hasD S2 w u with
  | none => rw [q] at h2; exact h2.elim
  | some c =>
    rw [q] at h2
    have h3 : Out cl X.K W' eqR σ φ2 H2 (.ok c S2 : Res Bool) Q := h2
    have fin : Q c H2 := h3 φ2 c H2 Nx.refl s2 rfl
    rcases hasD_at (φ1 := φ2) (H1 := H2) s2 (r1.mono n2) r2 q with ⟨a', o, e1, e2, e3⟩ | ⟨a', kvs, d, k, e1, e2, e3, e4, e5, e6⟩
    · exact .inl ⟨a', o, e1, e2, c, by rw [e3], fin⟩
    · exact .inr ⟨φ2, a', kvs, d, k, e1, e2, e3, e4, e5, c, by rw [e6], fin⟩
theorem rts_nil : PTs X [] (rdT cl X.K W' fun τ S => evT F τ S .tt) := ⟨fun pins s σ H Q I ⟨τ, S, φ, l, sr, h⟩ => by
  simp only [evT] at h
  exact pts_nil.run pins s σ H Q I (h.now sr rfl)⟩
theorem rts_one (h : PTm cl W' F X c tc) : PTs X [c] (rdT cl X.K W' fun τ S => evT F τ S tc) := pts_one h
theorem OutS.later {φ φ1 : Ms} {H H1 : Hp} {r : Res Fl} {D : Ends} (h : OutS cl X.K W' φ H r D) (n : Nx φ H φ1 H1) : OutS cl X.K W' φ1 H1 r D := by
  cases r with
  | no => exact h
  | exc e S => exact h
  | ok f S =>
    cases f with
    | nx τ => exact fun φ' H' σ n' s' l' => h φ' H' σ (n.trans n') s' l'
    | ret w => exact fun φ' H' v n' s' r' => h φ' H' v (n.trans n') s' r'
    | brk τ => exact fun φ' H' σ n' s' l' => h φ' H' σ (n.trans n') s' l'
    | cnt τ => exact fun φ' H' σ n' s' l' => h φ' H' σ (n.trans n') s' l'
    | rs τ e => exact fun φ' H' σ cls dd n' s' l' e' => h φ' H' σ cls dd (n.trans n') s' l' e'
/-- an expression in a statement -/
theorem OutS.step {α β : Type} {R : Ms → Hp → α → β → Prop} {τ : Lo} {σ : St} {φ : Ms} {H : Hp} {r : Res α} {f : α → Sto → Res Fl} {D : Ends} {Q' : β → Hp → Prop} (l : LR X.K φ H τ σ) (h : OutS cl X.K W' φ H (r.up τ f) D)
    (g : ∀ w S1 φ1 v H1, r = .ok w S1 → Nx φ H φ1 H1 → SR X.K φ1 H1 S1 → R φ1 H1 w v → OutS cl X.K W' φ1 H1 (f w S1) D → Q' v H1) : Out cl X.K W' R σ φ H r Q' := by
  cases r with
  | no => exact h
  | exc e S => exact fun φ' cls dd H' n' s' e' => h φ' H' σ cls dd n' s' (l.mono n') e'
  | ok w S => exact fun φ1 v H1 n s r => g w S φ1 v H1 rfl n s r ((show OutS cl X.K W' φ H (f w S) D from h).later n)
theorem OutS.nx {φ : Ms} {H : Hp} {τ : Lo} {S : Sto} {D : Ends} (h : OutS cl X.K W' φ H (.ok (.nx τ) S) D) (s : SR X.K φ H S) {σ : St} (l : LR X.K φ H τ σ) : D.nx σ H := h φ H σ Nx.refl s l
theorem rb_nil : PBm cl W' F X [] .nil := weakSs pss_nil fun D σ H ⟨τ, S, φ, l, sr, h⟩ => by
  simp only [exs] at h
  exact h.nx sr l
theorem seq_step {φ : Ms} {H : Hp} {σ : St} {r : Res Fl} {D : Ends} {m : Bk} {u : TS} (hu : ∀ D σ H, rdS cl X.K W' (fun τ S => exs F τ S m) D σ H → u D σ H) (h : OutS cl X.K W' φ H (r.bind fun f S1 => match f with
    | .nx τ1 => exs F τ1 S1 m
    | f => .ok f S1) D) : OutS cl X.K W' φ H r { D with nx := u D } := by
  cases r with
  | no => exact h
  | exc e S => exact h
  | ok f S =>
    cases f with
    | nx τ => exact fun φ' H' σ n' s' l' => hu D σ H' ⟨τ, S, φ', l', s', (show OutS cl X.K W' φ H (exs F τ S m) D from h).later n'⟩
    | ret w => exact h
    | brk τ => exact h
    | cnt τ => exact h
    | rs τ e => exact h
theorem rb_cons {st : Stmt} {rest : List Stmt} {m : Sm} {ms : Bk} (h1 : PSm cl W' F X st m) (h2 : PBm cl W' F X rest ms) : PBm cl W' F X (st :: rest) (.cons m ms) := weakSs (pss_cons h1 h2) fun D σ H ⟨τ, S, φ, l, sr, h⟩ => by
  simp only [exs] at h
  exact ⟨τ, S, φ, l, sr, seq_step (σ := σ) (fun _ _ _ z => z) h⟩
theorem rs_pass : PSm cl W' F X (.Pass pos) .pass := weakS ps_pass fun D σ H ⟨τ, S, φ, l, sr, h⟩ => by
  simp only [exe] at h
  exact h.nx sr l
theorem rs_brk : PSm cl W' F X (.Break pos) .brk := weakS ps_break fun D σ H ⟨τ, S, φ, l, sr, h⟩ => by
  simp only [exe] at h
  exact h φ H σ Nx.refl sr l
theorem rs_cnt : PSm cl W' F X (.Continue pos) .cnt := weakS ps_continue fun D σ H ⟨τ, S, φ, l, sr, h⟩ => by
  simp only [exe] at h
  exact h φ H σ Nx.refl sr l
theorem rs_doc {x : Str} {j : Nat} {p : Pos} : PSm cl W' F X (.Expr (.Constant (.str x) j p) pos) .pass := weakS ps_doc fun D σ H ⟨τ, S, φ, l, sr, h⟩ => by
  simp only [exe] at h
  exact h.nx sr l
theorem rs_ex (ha : PEm cl W' F X a ma) (hs : swapsWith a none pos.line X.env = pure false) : PSm cl W' F X (.Expr a pos) (.ex ma) := weakS (ps_expr ha hs) fun D σ H ⟨τ, S, φ, l, sr, h⟩ => by
  simp only [exe] at h
  exact ⟨τ, S, φ, l, sr, OutS.step l h fun w S1 φ1 v H1 _ n1 s1 r1 h1 => h1.nx s1 (l.mono n1)⟩
theorem rs_ret (ha : PEm cl W' F X a ma) : PSm cl W' F X (.Return (some a) pos) (.ret ma) := weakS (ps_ret ha) fun D σ H ⟨τ, S, φ, l, sr, h⟩ => by
  simp only [exe] at h
  exact ⟨τ, S, φ, l, sr, OutS.step l h fun w S1 φ1 v H1 _ n1 s1 r1 h1 => h1 φ1 H1 v Nx.refl s1 r1⟩
theorem rs_retN : PSm cl W' F X (.Return none pos) (.ret (.c .none)) := weakS ps_retN fun D σ H ⟨τ, S, φ, l, sr, h⟩ => by
  simp only [exe, ev, Res.up_ok] at h
  exact h φ H .non Nx.refl sr .non
theorem rs_if {u v : List Stmt} {mu mv : Bk} (hc : PTm cl W' F X c tc) (ha : PBm cl W' F X u mu) (hb : PBm cl W' F X v mv) : PSm cl W' F X (.If c u v pos) (.ifs tc mu mv) := weakS (ps_if hc ha hb) fun D σ H ⟨τ, S, φ, l, sr, h⟩ => by
  simp only [exe] at h
  refine ⟨τ, S, φ, l, sr, OutS.step l h fun k S1 φ1 v H1 _ n1 s1 r1 h1 => ?_⟩
  cases r1
  cases k with
  | true => exact ⟨τ, S1, φ1, l.mono n1, s1, h1⟩
  | false => exact ⟨τ, S1, φ1, l.mono n1, s1, h1⟩
theorem dry_exc {α β : Type} {r : Res α} {f : α → Sto → Res β} {e : Ev} {S : Sto} (h : r.dry.bind f = .exc e S) : ∃ w S1, r = .ok w S1 ∧ f w S1 = .exc e S := by
  cases r with
  | ok w S1 => exact ⟨w, S1, rfl, h⟩
  | _ => cases h
theorem put_dry : ∀ (tg : Tg) {τ : Lo} {S S2 : Sto} {w : W} {e : Ev}, put F τ S w tg = .exc e S2 → False
  | .v i, τ, S, S2, w, e, h => by simp only [put] at h; cases h
  | .e, τ, S, S2, w, e, h => by
    simp only [put] at h
    split at h <;> cases h
  | .t l r, τ, S, S2, w, e, h => by
    simp only [put] at h
    split at h
    · rename_i y ys
      cases q : put F τ S (.d y) l with
      | no => rw [q] at h; cases h
      | exc e2 S3 => exact put_dry l q
      | ok τ1 S1 =>
        rw [q] at h
        exact put_dry r (show put F τ1 S1 (.d (.tuple ys)) r = .exc e S2 from h)
    · cases h
  | .u i j, τ, S, S2, w, e, h => by
    simp only [put] at h
    split at h
    · split at h <;> cases h
    · cases h
  | .us is, τ, S, S2, w, e, h => by
    simp only [put] at h
    split at h
    · split at h
      · split at h <;> cases h
      · cases h
    · cases h
  | .s o i, τ, S, S2, w, e, h => by
    simp only [put] at h
    obtain ⟨w1, S1, _, h⟩ := dry_exc h
    obtain ⟨w2, S3, _, h⟩ := dry_exc h
    split at h <;> cases h
theorem asg_read {tg : Tg} {te : TE} {m : Ex} (hm : ∀ (σ : St) (H : Hp) (Q : VK), rdE cl X.K W' (fun τ S => ev F τ S m) σ H Q → te σ H Q) (D : Ends) (σ : St) (H : Hp) (h : rdS cl X.K W' (fun τ S => exe F τ S (.asg tg m)) D σ H) : tAsg te (rdG X.K tg.slots fun τ S w => put F τ S w tg) D σ H := by
  obtain ⟨τ, S, φ, l, sr, h⟩ := h
  simp only [exe] at h
  refine hm _ _ _ ⟨τ, S, φ, l, sr, OutS.step l h fun w S1 φ1 v H1 _ n1 s1 r1 h1 => ?_⟩
  refine ⟨τ, S1, φ1, w, l.mono n1, s1, r1, ?_⟩
  dsimp only
  cases q : put F τ S1 w tg with
  | no => rw [q] at h1; exact h1
  | exc e S2 =>
    exact (put_dry tg q).elim
  | ok τ2 S2 =>
    rw [q] at h1
    exact fun φ2 H2 σ2 n2 s2 l2 _ => h1 φ2 H2 σ2 n2 s2 l2
theorem rs_asg {tgt : Expr} {tg : Tg} (hg : PGm F X tgt tg) (ha : PEm cl W' F X a ma) (hs : swapsWithSole [tgt] a pos.line X.env = pure false) (hw : swappedStores [tgt] a X.env = pure none) (h1 : (assignEach [tgt] X.env).map (·.2) = [assign tgt X.env]) : PSm cl W' F X (.Assign [tgt] a pos) (.asg tg ma) :=
  weakS (ps_asg ha hg hs hw h1) (asg_read fun _ _ _ z => z)
/-- name = a comprehension, on one line -/
theorem rs_setC {i : Nat} {y : Str} {py p2 : Pos} {elt tgt iter : Expr} {ifs : List Expr} {scope : Scope} {own : List (Str × Nat)} {e : Ex} {tg : Tg} {it : Ie} {t : Te} (hc : X.calm = true) (hN : X.N.Nodup) (hy : X.N[i]? = some y) (hyl : X.env.scope.names.lookup y = some .local)
    (hsw : swapsWith (.ListComp elt [⟨tgt, iter, ifs, 0⟩] scope pos) (some (.Name y py)) p2.line X.env = pure true) (hi : PIm cl W' F X tgt iter it) (ok : BlkOk X.N X.env.scope scope own)
    (hg : InBlk X scope fun Y => PGm F Y tgt tg) (ht : InBlk X scope fun Y => PTs Y ifs (rdT cl X.K WF fun τ S => evT F τ S t)) (he : InBlk X scope fun Y => PEm cl WF F Y elt e) (hs : ∀ x, foldedSetIterable iter X.env x = pure x) (hsl : ∀ i ∈ tg.slots, i ∈ own.map (·.2)) :
    PSm cl W' F X (.Assign [.Name y py] (.ListComp elt [⟨tgt, iter, ifs, 0⟩] scope pos) p2) (.asg (.v i) (.comp (own.map (·.2)) e tg it t)) := weakS (ps_setLc hc hN hy hyl hsw hi ok hg ht he hs) fun D σ H h => by
  obtain ⟨τ, S, φ, l, sr, h⟩ := h
  simp only [exe] at h
  show tLc _ _ _ _ _ σ H fun x H1 => gName i x σ H1 D.nx
  refine lc_read (cl := cl) (W' := W') (e := e) (it := it) (t := t) hsl ⟨τ, S, φ, l, sr, OutS.step l h fun w S1 φ1 v H1 _ n1 s1 r1 h1 => ?_⟩
  simp only [put, Res.up_ok] at h1
  exact h1.nx s1 ((l.mono n1).set r1)
/-- .. that may change -/
theorem rs_setCN {i : Nat} {y : Str} {py p2 : Pos} {elt tgt iter : Expr} {ifs : List Expr} {scope : Scope} {own : List (Str × Nat)} {e : Ex} {tg : Tg} {it : Ie} {t : Te} (hc : X.calm = true) (hN : X.N.Nodup) (hy : X.N[i]? = some y) (hyl : X.env.scope.names.lookup y = some .local)
    (hsw : swapsWith (.ListComp elt [⟨tgt, iter, ifs, 0⟩] scope pos) (some (.Name y py)) p2.line X.env = pure true) (hi : PIm cl W' F X tgt iter it) (ok : BlkOk X.N X.env.scope scope own)
    (hg : InBlk X scope fun Y => PGm F Y tgt tg) (ht : InBlk X scope fun Y => PTs Y ifs (rdT cl X.K WF fun τ S => evT F τ S t)) (he : InBlk X scope fun Y => PEm cl WF F Y elt e) (hs : ∀ x, foldedSetIterable iter X.env x = pure x) (hsl : ∀ i ∈ tg.slots, i ∈ own.map (·.2)) :
    PSm cl W' F X (.Assign [.Name y py] (.ListComp elt [⟨tgt, iter, ifs, 0⟩] scope pos) p2) (.asg (.v i) (.compN (own.map (·.2)) e tg it t)) := weakS (ps_setLc hc hN hy hyl hsw hi ok hg ht he hs) fun D σ H h => by
  obtain ⟨τ, S, φ, l, sr, h⟩ := h
  simp only [exe] at h
  show tLc _ _ _ _ _ σ H fun x H1 => gName i x σ H1 D.nx
  refine lc_readN (cl := cl) (W' := W') (e := e) (it := it) (t := t) hsl ⟨τ, S, φ, l, sr, OutS.step l h fun w S1 φ1 v H1 _ n1 s1 r1 h1 => ?_⟩
  simp only [put, Res.up_ok] at h1
  exact h1.nx s1 ((l.mono n1).set r1)
/-- .. of two sources -/
theorem rs_setC2 {i : Nat} {y : Str} {py p2 : Pos} {elt tgt iter tgt1 iter1 : Expr} {ifs1 : List Expr} {scope : Scope} {own : List (Str × Nat)} {vs1 : List Nat} {e : Ex} {tg tg1 : Tg} {it it1 : Ie} {t1 : Te} (hc : X.calm = true) (hN : X.N.Nodup) (hy : X.N[i]? = some y) (hyl : X.env.scope.names.lookup y = some .local)
    (hsw : swapsWith (.ListComp elt [⟨tgt, iter, [], 0⟩, ⟨tgt1, iter1, ifs1, 0⟩] scope pos) (some (.Name y py)) p2.line X.env = pure true) (hi : PIm cl W' F X tgt iter it) (ok : BlkOk X.N X.env.scope scope own) (hv : ∀ i ∈ vs1, i ∈ own.map (·.2))
    (hg : InBlk X scope fun Y => PGm F Y tgt tg) (hi1 : InBlk X scope fun Y => PIm cl WF F Y tgt1 iter1 it1) (hg1 : InBlk X scope fun Y => PGm F Y tgt1 tg1) (ht1 : InBlk X scope fun Y => PTs Y ifs1 (rdT cl X.K WF fun τ S => evT F τ S t1)) (he : InBlk X scope fun Y => PEm cl WF F Y elt e)
    (hs : ∀ x, foldedSetIterable iter X.env x = pure x) (hs1 : ∀ env x, foldedSetIterable iter1 env x = pure x) (hsl : ∀ i ∈ tg.slots, i ∈ own.map (·.2)) (hsl1 : ∀ i ∈ tg1.slots, i ∈ vs1) :
    PSm cl W' F X (.Assign [.Name y py] (.ListComp elt [⟨tgt, iter, [], 0⟩, ⟨tgt1, iter1, ifs1, 0⟩] scope pos) p2) (.asg (.v i) (.comp2 (own.map (·.2)) vs1 e tg it tg1 it1 t1)) := weakS (ps_setLc2 hc hN hy hyl hsw hi ok hv hg (fun _ _ _ _ _ => rts_nil0) hi1 hg1 ht1 he hs hs1) fun D σ H h => by
  obtain ⟨τ, S, φ, l, sr, h⟩ := h
  simp only [exe] at h
  show tLc2 _ _ _ _ _ _ _ _ _ σ H fun x H1 => gName i x σ H1 D.nx
  refine lc2_read (cl := cl) (W' := W') (e := e) (it := it) (it1 := it1) (t1 := t1) hsl hsl1 ⟨τ, S, φ, l, sr, OutS.step l h fun w S1 φ1 v H1 _ n1 s1 r1 h1 => ?_⟩
  simp only [put, Res.up_ok] at h1
  exact h1.nx s1 ((l.mono n1).set r1)
theorem rs_par {i j : Nat} {x y : Str} {px py pt : Pos} {kt k2 : Nat} {pt2 : Pos} (hc : X.calm = true) (hN : X.N.Nodup) (hi : X.N[i]? = some x) (hj : X.N[j]? = some y) (hij : i ≠ j) (hx : X.env.scope.names.lookup x = some .local) (hy : X.env.scope.names.lookup y = some .local)
    (ha : PEm cl W' F X a ma) (hb : PEm cl W' F X b mb) (hs1 : starEach [a, b] X.env = (false, eval a X.env) :: starEach [b] X.env) (hs2 : starEach [b] X.env = (false, eval b X.env) :: starEach [] X.env)
    (hw : swappedStores [.Tuple [.Name x px, .Name y py] kt pt] (.Tuple [a, b] k2 pt2) X.env = pure (some [x, y])) (hs : swapsWithSole [.Tuple [.Name x px, .Name y py] kt pt] (.Tuple [a, b] k2 pt2) pos.line X.env = pure false) :
    PSm cl W' F X (.Assign [.Tuple [.Name x px, .Name y py] kt pt] (.Tuple [a, b] k2 pt2) pos) (.par i j ma mb) := weakS (ps_par hc hN hi hj hij hx hy (pa_cons ha (pa_cons hb pa_nil hs2) hs1) hw hs) fun D σ H ⟨τ, S, φ, l, sr, h⟩ => by
  simp only [exe] at h
  refine ⟨τ, S, φ, l, sr, OutS.step l h fun w S1 φ1 v H1 _ n1 s1 r1 h1 => ?_⟩
  refine ⟨τ, S1, φ1, l.mono n1, s1, OutS.step (l.mono n1) h1 fun u S2 φ2 v2 H2 _ n2 s2 r2 h2 => ?_⟩
  exact ⟨v, v2, rfl, h2.nx s2 ((((l.mono n1).mono n2).set (r1.mono n2)).set r2)⟩
/-- .. stored from the left -/
theorem rs_parO {i j : Nat} {x y : Str} {px py pt : Pos} {kt k2 : Nat} {pt2 : Pos} (hc : X.calm = true) (hN : X.N.Nodup) (hi : X.N[i]? = some x) (hj : X.N[j]? = some y) (hx : Loc X.env.scope x) (hy : Loc X.env.scope y) (fx : X.fn x = true ∨ X.env.scope.names.lookup x = some .local) (fy : X.fn y = true ∨ X.env.scope.names.lookup y = some .local)
    (ha : PEm cl W' F X a ma) (hb : PEm cl W' F X b mb) (hs1 : starEach [a, b] X.env = (false, eval a X.env) :: starEach [b] X.env) (hs2 : starEach [b] X.env = (false, eval b X.env) :: starEach [] X.env)
    (hw : swappedStores [.Tuple [.Name x px, .Name y py] kt pt] (.Tuple [a, b] k2 pt2) X.env = pure none) (hs : swapsWithSole [.Tuple [.Name x px, .Name y py] kt pt] (.Tuple [a, b] k2 pt2) pos.line X.env = pure false) (h1 : (assignEach [.Tuple [.Name x px, .Name y py] kt pt] X.env).map (·.2) = [assign (.Tuple [.Name x px, .Name y py] kt pt) X.env]) :
    PSm cl W' F X (.Assign [.Tuple [.Name x px, .Name y py] kt pt] (.Tuple [a, b] k2 pt2) pos) (.par i j ma mb) := weakS (ps_asg (pe_tup (pa_cons ha (pa_cons hb pa_nil hs2) hs1)) (pg_tup (n := 2) hc (pgs_cons (pg_name hN hi hx fx) (pgs_cons (pg_name hN hj hy fy) pgs_nil))) hs hw h1) fun D σ H ⟨τ, S, φ, l, sr, h⟩ => by
  simp only [exe] at h
  refine ⟨τ, S, φ, l, sr, OutS.step l h fun w S1 φ1 v H1 _ n1 s1 r1 h1 => ?_⟩
  refine ⟨τ, S1, φ1, l.mono n1, s1, OutS.step (l.mono n1) h1 fun u S2 φ2 v2 H2 _ n2 s2 r2 h2 => ?_⟩
  refine ⟨show 2 ≤ sizeLine by decide, fun p hp => ?_⟩
  obtain ⟨s', n⟩ := s2.keep (same_new (o := .tup [v, v2]) hp)
  refine ⟨p, [v, v2], rfl, SqT.of upd_same, rfl, v, [v2], rfl, v2, [], rfl, rfl, ?_⟩
  exact (h2.later n).nx s' (((((l.mono n1).mono n2).mono n).set ((r1.mono n2).mono n)).set (r2.mono n))
theorem rs_par3 {i j n : Nat} {x y z : Str} {px py pz pt : Pos} {kt k2 : Nat} {pt2 : Pos} (hc : X.calm = true) (hN : X.N.Nodup) (hi : X.N[i]? = some x) (hj : X.N[j]? = some y) (hn : X.N[n]? = some z) (hij : i ≠ j) (hin : i ≠ n) (hjn : j ≠ n) (hx : X.env.scope.names.lookup x = some .local) (hy : X.env.scope.names.lookup y = some .local) (hz : X.env.scope.names.lookup z = some .local)
    (ha : PEm cl W' F X a ma) (hb : PEm cl W' F X b mb) (hcc : PEm cl W' F X c mc) (hs1 : starEach [a, b, c] X.env = (false, eval a X.env) :: starEach [b, c] X.env) (hs2 : starEach [b, c] X.env = (false, eval b X.env) :: starEach [c] X.env) (hs3 : starEach [c] X.env = (false, eval c X.env) :: starEach [] X.env)
    (hw : swappedStores [.Tuple [.Name x px, .Name y py, .Name z pz] kt pt] (.Tuple [a, b, c] k2 pt2) X.env = pure (some [x, y, z])) (hs : swapsWithSole [.Tuple [.Name x px, .Name y py, .Name z pz] kt pt] (.Tuple [a, b, c] k2 pt2) pos.line X.env = pure false) :
    PSm cl W' F X (.Assign [.Tuple [.Name x px, .Name y py, .Name z pz] kt pt] (.Tuple [a, b, c] k2 pt2) pos) (.par3 i j n ma mb mc) := weakS (ps_par3 hc hN hi hj hn hij hin hjn hx hy hz (pa_cons ha (pa_cons hb (pa_cons hcc pa_nil hs3) hs2) hs1) hw hs) fun D σ H ⟨τ, S, φ, l, sr, h⟩ => by
  simp only [exe] at h
  refine ⟨τ, S, φ, l, sr, OutS.step l h fun w S1 φ1 v H1 _ n1 s1 r1 h1 => ?_⟩
  refine ⟨τ, S1, φ1, l.mono n1, s1, OutS.step (l.mono n1) h1 fun u S2 φ2 v2 H2 _ n2 s2 r2 h2 => ?_⟩
  refine ⟨τ, S2, φ2, (l.mono n1).mono n2, s2, OutS.step ((l.mono n1).mono n2) h2 fun t S3 φ3 v3 H3 _ n3 s3 r3 h3 => ?_⟩
  exact ⟨v, v2, v3, rfl, h3.nx s3 ((((((l.mono n1).mono n2).mono n3).set ((r1.mono n2).mono n3)).set (r2.mono n3)).set r3)⟩
theorem rs_aug {i : Nat} {x : Str} {p2 : Pos} {op : Operator} {g : D → D → Option D} (hN : X.N.Nodup) (hi : X.N[i]? = some x) (hx : Loc X.env.scope x) (ha : PEm cl W' F X a ma) (ho : OpD X (inplaceOp op) g) (hf : X.fn x = true ∨ X.env.scope.names.lookup x = some .local) : PSm cl W' F X (.AugAssign (.Name x p2) op a pos) (.aug i g ma) := by
  refine weakS (ps_aug (ti := fun x y H Q => ∃ φ : Ms, ∃ d e z, Dp X.K (hid φ H) x d ∧ Dp X.K (hid φ H) y e ∧ g d e = some z ∧ (∀ a, φ.has a → H a ≠ none) ∧ ∀ v H', Same H H' → Dp X.K (hid φ H') v z → Q v H') hN hi hx ha (fun pins s σ H x y v u Q I rx ry ⟨φ, z⟩ => ho φ pins s σ H x y v u Q I rx ry z) hf) fun D σ H ⟨τ, S, φ, l, sr, h⟩ => ?_
  simp only [exe] at h
  cases q : τ[i]? with
  | none => rw [q] at h; exact h.elim
  | some o =>
    rw [q] at h
    cases o with
    | none => exact h.elim
    | some w =>
      cases w with
      | ref n => exact h.elim
      | d x =>
        obtain ⟨v, ev', r⟩ := l.at_ i _ q
        refine ⟨v, ev', τ, S, φ, l, sr, OutS.step l h fun w S1 φ1 v1 H1 _ n1 s1 r1 h1 => ?_⟩
        cases w with
        | ref n => exact (show False from h1).elim
        | d y =>
          dsimp only at h1
          cases qg : g x y with
          | none => rw [qg] at h1; exact h1.elim
          | some z =>
            rw [qg] at h1
            refine ⟨φ1, x, y, z, (r.mono n1), r1, qg, s1.there, fun v2 H2 e r2 => ?_⟩
            obtain ⟨s2, n2⟩ := s1.keep e
            exact OutS.nx (h1.later n2) s2 (((l.mono n1).mono n2).set r2)
/-- a for's turns -/
theorem rs_for {tgt iter : Expr} {body : List Stmt} {tg : Tg} {it : Ie} {m : Bk} (hp : PassesOwn (model X.prog X.w) X.A X.env X.xe) (hc : X.calm = true) (hi : PIm cl W' F X tgt iter it) (hg : PGm F X tgt tg) (hb : PBm cl W' F X body m) (hs : ∀ x, foldedSetIterable iter X.env x = pure x) :
    PSm cl W' F X (.For tgt iter body [] pos) (.fors tg it m) := weakS (ps_for hp hc hi hg hb hs) fun D σ H ⟨τ, S, φ, l, sr, h⟩ => by
  simp only [exe] at h
  refine ⟨τ, S, φ, l, sr, OutS.step l h fun xs S1 φ1 J H1 _ n1 s1 wk h1 => ?_⟩
  let fL := fun xs τ S => forL (fun τ x S => put F τ S (.d x) tg) (fun τ S => exs F τ S m) xs τ S
  refine ⟨fun i k σ2 H2 => k = xs.length - i ∧ i ≤ xs.length ∧ ∃ τ2 S2 φ2, Nx φ1 H1 φ2 H2 ∧ LR X.K φ2 H2 τ2 σ2 ∧ SR X.K φ2 H2 S2 ∧ OutS cl X.K W' φ2 H2 (fL (xs.drop i) τ2 S2) D, ⟨xs.length, by simp, Nat.zero_le _, τ, S1, φ1, Nx.refl, l.mono n1, s1, h1⟩, ?_⟩
  rintro i k σ2 H2 ⟨rfl, hi, τ2, S2, φ2, n2, l2, s2, h2⟩
  obtain ⟨go, stop⟩ := wk φ2 H2 n2.same s2.there i
  by_cases hlt : i < xs.length
  · refine .inr ⟨(go hlt).1, _, fun σ' H' z => z, fun v H3 y => ?_⟩
    rotate_left
    · obtain ⟨sm3, d, hd, rv⟩ := (go hlt).2 v H3 y
      obtain ⟨s3, n3⟩ := s2.keep sm3
      have ed : xs.drop i = d :: xs.drop (i + 1) := by
        rw [List.drop_eq_getElem_cons hlt]
        rw [List.getElem?_eq_getElem hlt] at hd
        rw [Option.some.inj hd]
      rw [ed] at h2
      have h3 : OutS cl X.K W' φ2 H2 ((put F τ2 S2 (.d d) tg).up τ2 fun τ1 S1 => (exs F τ1 S1 m).bind fun f S2 => match f with
        | .nx τ2 => fL (xs.drop (i + 1)) τ2 S2
        | .cnt τ2 => fL (xs.drop (i + 1)) τ2 S2
        | .brk τ2 => .ok (.nx τ2) S2
        | .ret w => .ok (.ret w) S2
        | .rs τ2 e => .ok (.rs τ2 e) S2) D := h2
      refine ⟨τ2, S2, φ2, .d d, l2.mono n3, s3, rv, ?_⟩
      dsimp only
      cases q1 : put F τ2 S2 (.d d) tg with
      | no => rw [q1] at h3; exact h3
      | exc e S4 => exact (put_dry tg q1).elim
      | ok τ4 S4 =>
        rw [q1] at h3
        intro φ4 H4 σ4 n4 s4 l4 _
        refine ⟨τ4, S4, φ4, l4, s4, ?_⟩
        have n34 := n3.trans n4
        dsimp only
        have h4 : OutS cl X.K W' φ2 H2 ((exs F τ4 S4 m).bind fun f S2 => match f with
          | .nx τ2 => fL (xs.drop (i + 1)) τ2 S2
          | .cnt τ2 => fL (xs.drop (i + 1)) τ2 S2
          | .brk τ2 => .ok (.nx τ2) S2
          | .ret w => .ok (.ret w) S2
          | .rs τ2 e => .ok (.rs τ2 e) S2) D := h3
        cases q2 : exs F τ4 S4 m with
        | no => rw [q2] at h4; exact h4
        | exc e S5 => rw [q2] at h4; exact h4
        | ok f S5 =>
          rw [q2] at h4
          cases f with
          | nx τ5 => exact fun φ5 H5 σ5 n5 s5 l5 => ⟨xs.length - (i + 1), by omega, rfl, hlt, τ5, S5, φ5, n2.trans (n34.trans n5), l5, s5, (show OutS cl X.K W' φ2 H2 (fL (xs.drop (i + 1)) τ5 S5) D from h4).later (n34.trans n5)⟩
          | cnt τ5 => exact fun φ5 H5 σ5 n5 s5 l5 => ⟨xs.length - (i + 1), by omega, rfl, hlt, τ5, S5, φ5, n2.trans (n34.trans n5), l5, s5, (show OutS cl X.K W' φ2 H2 (fL (xs.drop (i + 1)) τ5 S5) D from h4).later (n34.trans n5)⟩
          | brk τ5 => exact fun φ5 H5 σ5 n5 s5 l5 => h4 φ5 H5 σ5 (n34.trans n5) s5 l5
          | ret w => exact fun φ5 H5 v5 n5 s5 r5 => h4 φ5 H5 v5 (n34.trans n5) s5 r5
          | rs τ5 e => exact fun φ5 H5 σ5 cls dd n5 s5 l5 e5 => h4 φ5 H5 σ5 cls dd (n34.trans n5) s5 l5 e5
  · have ei : i = xs.length := by omega
    subst ei
    refine .inl ⟨stop rfl, ?_⟩
    rw [List.drop_length] at h2
    exact OutS.nx h2 s2 l2
theorem rs_while {body : List Stmt} {m : Bk} (hp : PassesOwn (model X.prog X.w) X.A X.env X.xe) (hc : PTm cl W' F X c tc) (hb : PBm cl W' F X body m) : PSm cl W' F X (.While c body [] pos) (.whl tc m) := weakS (ps_while hp hc hb) fun D σ H ⟨τ, S, φ, l, sr, h⟩ => by
  simp only [exe] at h
  let wL := fun n τ S => whlL (fun τ S => evT F τ S tc) (fun τ S => exs F τ S m) n τ S
  refine ⟨fun k σ2 H2 => ∃ τ2 S2 φ2, LR X.K φ2 H2 τ2 σ2 ∧ SR X.K φ2 H2 S2 ∧ OutS cl X.K W' φ2 H2 (wL k τ2 S2) D, ⟨whlMost, τ, S, φ, l, sr, h⟩, ?_⟩
  rintro k σ2 H2 ⟨τ2, S2, φ2, l2, s2, h2⟩
  cases k with
  | zero => exact (show False from h2).elim
  | succ n =>
    have h3 : OutS cl X.K W' φ2 H2 ((evT F τ2 S2 tc).up τ2 fun c S1 => if c = true then (exs F τ2 S1 m).bind fun f S2 => (match f with
        | .nx τ2 => wL n τ2 S2
        | .cnt τ2 => wL n τ2 S2
        | .brk τ2 => .ok (.nx τ2) S2
        | .ret w => .ok (.ret w) S2
        | .rs τ2 e => .ok (.rs τ2 e) S2)
      else .ok (.nx τ2) S1) D := h2
    refine ⟨τ2, S2, φ2, l2, s2, OutS.step l2 h3 fun b S3 φ3 v H3 _ n3 s3 r3 h4 => ?_⟩
    cases r3
    cases b with
    | false => exact OutS.nx h4 s3 (l2.mono n3)
    | true =>
      rw [if_pos rfl]
      refine ⟨_, fun σ' H' z => z, ?_⟩
      refine ⟨τ2, S3, φ3, l2.mono n3, s3, ?_⟩
      have h5 : OutS cl X.K W' φ3 H3 ((exs F τ2 S3 m).bind fun f S2 => (match f with
        | .nx τ2 => wL n τ2 S2
        | .cnt τ2 => wL n τ2 S2
        | .brk τ2 => .ok (.nx τ2) S2
        | .ret w => .ok (.ret w) S2
        | .rs τ2 e => .ok (.rs τ2 e) S2)) D := h4
      dsimp only
      cases q2 : exs F τ2 S3 m with
      | no => rw [q2] at h5; exact h5
      | exc e S5 => rw [q2] at h5; exact h5
      | ok f S5 =>
        rw [q2] at h5
        cases f with
        | nx τ5 => exact fun φ5 H5 σ5 n5 s5 l5 => ⟨n, Nat.lt_succ_self _, τ5, S5, φ5, l5, s5, (show OutS cl X.K W' φ3 H3 (wL n τ5 S5) D from h5).later n5⟩
        | cnt τ5 => exact fun φ5 H5 σ5 n5 s5 l5 => ⟨n, Nat.lt_succ_self _, τ5, S5, φ5, l5, s5, (show OutS cl X.K W' φ3 H3 (wL n τ5 S5) D from h5).later n5⟩
        | brk τ5 => exact fun φ5 H5 σ5 n5 s5 l5 => h5 φ5 H5 σ5 n5 s5 l5
        | ret w => exact fun φ5 H5 v5 n5 s5 r5 => h5 φ5 H5 v5 n5 s5 r5
        | rs τ5 e => exact fun φ5 H5 σ5 cls dd n5 s5 l5 e5 => h5 φ5 H5 σ5 cls dd n5 s5 l5 e5
end
end Ft
namespace Ft
variable [Wd]
open PySem PySem.Spec L2
open PyProof.Rows hiding St
/-- a def's promise, for calls outside of any repr -/
structure FnG (P : Program) (w : World) (K : PySem.W.Frag) (mg : Str → Option Value) (base : Heap) (k : Nat) (f : Addr) (fd : FuncData) (ps : List Str) (sp : Sp) : Prop where
  len : ∀ vs H Q E, sp vs H Q E → vs.length = ps.length
  run : ∀ (A : Around) (outer : List Env) (s : Shared) (H : Hp) (args : Args) (us : List Value) (vs : List V) (Q : VK) (E : XK),
    Room k A → A.guards = some [] → Env0 P w K mg base A outer s H → BindsTo s fd args (ps.zip us) → Vals vs us → sp vs H Q E →
    codeAny (model P w) A (.call (.ref f) args) (CR (L2.CX P w) outer P w H s Q E) s
theorem FnG.mono {P : Program} {w : World} {K : PySem.W.Frag} {mg : Str → Option Value} {base : Heap} {j k : Nat} {f : Addr} {fd : FuncData} {ps : List Str} {sp : Sp}
    (G : FnG P w K mg base j f fd ps sp) (h : j ≤ k) : FnG P w K mg base k f fd ps sp :=
  ⟨G.len, fun A outer s H args us vs Q E hr hg => G.run A outer s H args us vs Q E (hr.mono h) hg⟩
/-- what the small language says of a def -/
def spI (cl : Nat → Addr) (K : PySem.W.Frag) (np : Nat) (r : List W → Sto → Res W) : Sp := fun vs H Q E => ∃ ws S φ, ws.length = np ∧ WRs K φ H ws vs ∧ SR K φ H S ∧ Out cl K (fun cls d _ H' => E cls d H') (WR K) [] φ H (r ws S) Q
theorem Out.slots {cl : Nat → Addr} {K : PySem.W.Frag} {W1 W2 : WX} {α β : Type} {R : Ms → Hp → α → β → Prop} {σ σ' : St} {φ : Ms} {H : Hp} {r : Res α} {Q : β → Hp → Prop} (h : Out cl K W1 R σ φ H r Q) (hw : ∀ c d H, W1 c d σ H → W2 c d σ' H) : Out cl K W2 R σ' φ H r Q := by
  cases r with
  | no => exact h
  | exc e S => exact fun φ' cls dd H' n s e' => hw _ _ _ (h φ' cls dd H' n s e')
  | ok w S => exact h
section
variable {P : Program} {w : World} {K : PySem.W.Frag} {mg : Str → Option Value} {base : Heap} {cl : Nat → Addr}
theorem fn_g {k np : Nat} {r : List W → Sto → Res W} {f : Addr} {name qual : Str} {params : Arguments} {body : List Stmt} {scope : Scope} {dV kV doc pm cdv ct oc : Value} {an od : Option Addr} {osl : Array (Option Value)} {N ps : List Str}
    (lk : K.lookup f = some ⟨oc, od, .func (PySem.W.fnOf name qual params body scope dV kV doc pm an cdv ct), osl⟩) (hcd : PySem.W.codeIn K cdv qual = true) (Sc : FnScope N ps scope) (hnp : ps.length = np)
    (hbody : ∀ (A : Around) (outer : List Env) (s : Shared) (H : Hp) (vs : List V) (Q : VK) (E : XK), Room k (A.deeper (envOfC qual scope s.heap.objs.size f cdv)) → A.guards = some [] → spI cl K np r vs H Q E →
      ∃ t, PSs (cxOf (L2.CX P w) P w K mg base N qual scope f cdv A outer s H E) body t ∧ t { nx := fun _ H' => Q .non H', rt := Q } (start N vs) H) :
    FnG P w K mg base (k + 1) f (PySem.W.fnOf name qual params body scope dV kV doc pm an cdv ct) ps (spI cl K np r) := by
  have hlen : ∀ vs H Q E, spI cl K np r vs H Q E → vs.length = ps.length := fun vs H Q E ⟨ws, _, _, e, rw, _⟩ => by rw [← rw.len, e, hnp]
  refine ⟨hlen, fun A outer s H args us vs Q E hr hg e0 hb rv hsp => ?_⟩
  have h1 := hlen _ _ _ _ hsp
  have kin : K.In s.heap := e0.mod.kin.keeps fun b o e => (e0.bs b o e).1
  have nol : s.heap.NoLimit := e0.mod.nolimit.keeps fun b o e => (e0.bs b o e).1
  have kinds : ∀ y ∈ ps.zip us, scope.names.lookup y.1 = some .local ∨
      (scope.names.lookup y.1 = some .cell ∧ ((cellsFrom (s.heap.objs.size + 1) scope.names []).lookup y.1).isSome = true) := fun ⟨nm, u⟩ hy =>
    (Sc.par nm (List.of_mem_zip hy).1).elim .inl fun q => .inr ⟨q, PySem.W.cellsFrom_some _ _ _ (.inl q)⟩
  refine codeAny_call_function hr.depth (kin _ _ lk) rfl Sc.co Sc.gen rfl (PySem.W.codeRec_of kin hcd) (hb _ _ _ _ ?_)
  refine wpAny_newFunctionEnv_cells Sc.kind kinds fun env he s1 x => ?_
  subst he
  refine ⟨nol.keeps x.toInCall.keep, codeAny_func ?_⟩
  obtain ⟨t, ht, hq⟩ := hbody A outer s H vs Q E (hr.deeper _) hg hsp
  have I := inv_start (CX := L2.CX P w) (E := E) Sc hr.hd e0 h1 rv x
  refine wpAny_mono (ht.run [] s1 (start N vs) H _ I hq) (fun fl s' hs => ?_) fun e s' hs => hs
  cases fl with
  | ret u =>
    obtain ⟨v, σ', H', J, r', q⟩ := hs
    exact ⟨v, H', J.os, J.bare, J.base, J.hok, r', q⟩
  | next =>
    obtain ⟨σ', H', J, q⟩ := hs
    exact ⟨.non, H', J.os, J.bare, J.base, J.hok, rfl, q⟩
  | brk =>
    obtain ⟨_, _, _, q⟩ := hs
    exact q.elim
  | cont =>
    obtain ⟨_, _, _, q⟩ := hs
    exact q.elim
/-- by the number of the picked ones -/
def pickA {α : Type} (ws : List α) : List Nat → Option (List α)
  | [] => some []
  | j :: r => match ws[j]?, pickA ws r with
    | some w, some us => some (w :: us)
    | _, _ => none
theorem pick_rel {φ : Ms} {H : Hp} {ws : List W} {vs : List V} (h : WRs K φ H ws vs) : ∀ {perm : List Nat} {wz : List W}, pick ws perm = some wz → ∃ vz, pickA vs perm = some vz ∧ WRs K φ H wz vz
  | [], _, e => by cases e; exact ⟨[], rfl, .nil⟩
  | j :: r, wz, e => by
    unfold pick at e
    cases q : ws[j]? with
    | none => rw [q] at e; cases e
    | some w =>
      cases q2 : pick ws r with
      | none => rw [q, q2] at e; cases e
      | some us =>
        rw [q, q2] at e
        cases e
        obtain ⟨v, hv, r1⟩ := wrs_get h q
        obtain ⟨vz, hz, r2⟩ := pick_rel h q2
        exact ⟨v :: vz, by unfold pickA; rw [hv, hz], .cons r1 r2⟩
theorem pick_vals {vs : List V} {us : List Value} (h : Vals vs us) : ∀ {perm : List Nat} {vz : List V}, pickA vs perm = some vz → ∃ uz, pickA us perm = some uz ∧ Vals vz uz
  | [], _, e => by cases e; exact ⟨[], rfl, .nil⟩
  | j :: r, vz, e => by
    unfold pickA at e
    cases q : vs[j]? with
    | none => rw [q] at e; cases e
    | some w =>
      cases q2 : pickA vs r with
      | none => rw [q, q2] at e; cases e
      | some us' =>
        rw [q, q2] at e
        cases e
        obtain ⟨u, hu, r1⟩ := h.get q
        obtain ⟨uz, hz, r2⟩ := pick_vals h q2
        exact ⟨u :: uz, by unfold pickA; rw [hu, hz], .cons r1 r2⟩
/-- a call, from the def's promise -/
theorem call_g {X : Cx} {W' : WX} {F : Fs} {k np i : Nat} {f : Addr} {fd : FuncData} {ps ks : List Str} {g : List W → Option (List W)} (G : FnG X.prog X.w X.K X.mg X.base k f fd ps (spI cl X.K np (F i))) (hr : Room k X.A) (hg : X.A.guards = some []) (tk : Takes X W') (hnp : ps.length = np)
    (hb : ∀ (φ : Ms) (H : Hp) (s : Shared) (us uk : List Value) (vs vk : List V) (ws wk wz : List W), X.K.In s.heap → Vals vs us → Vals vk uk → uk.length = ks.length → WRs X.K φ H ws vs → WRs X.K φ H wk vk → g (ws ++ wk) = some wz → wz.length = np →
      ∃ vz uz, Vals vz uz ∧ WRs X.K φ H wz vz ∧ BindsTo s fd ⟨us, ks.zip uk⟩ (ps.zip uz))
    (hlen : ∀ wz S, wz.length ≠ np → F i wz S = .no) : CallsTo cl W' F X f ks g i := fun pins s σ H us uk vs vk ws wk wz S φ Q I r1 r2 lk q1 q2 sr eg h => by
  by_cases hz : wz.length = np
  · obtain ⟨vz, uz, rz, qz, bz⟩ := hb φ H s us uk vs vk ws wk wz I.kIn r1 r2 lk q1 q2 eg hz
    refine wpAny_call (codeAny_mono (G.run X.A X.stack s H ⟨us, ks.zip uk⟩ uz vz Q (fun cls d H' => W' cls d σ H') hr hg I.env0 bz rz ⟨wz, S, φ, hz, qz, sr, h.slots fun _ _ _ z => z⟩) fun rr s' hq => ?_)
    cases rr with
    | error e => exact tk e s' (XE.of_call I (fun _ _ _ z => z) hq)
    | ok fl =>
      cases fl with
      | ret u => exact I.after hq
      | next => exact False.elim hq
      | brk => exact False.elim hq
      | cont => exact False.elim hq
  · rw [hlen wz S hz] at h
    exact h.elim
end
theorem law_g {P : Program} {w : World} {K : PySem.W.Frag} {mg mb : Str → Option Value} {k : Nat} {fa a : Addr} {fd : FuncData} {x : Str} {sp : Sp} {s1 : Shared} {us : List Value} {ns : List Int}
    (kin : K.In s1.heap) (hmg : s1.heap.Ns mainGlobals mg) (hmb : s1.heap.Ns builtinsNs mb) (hbb : ∀ y : Str, y ≠ "__name__" → mb y = bootBuiltins y) (nol : s1.heap.NoLimit) (hgen : s1.gens = #[])
    (ha : s1.heap.get? a = some { cls := .type "list", data := .seq us.toArray }) (hi : IntsAre us ns) (hl : ns.length ≤ sizeLine) (room : Room k callerA)
    (G : ∀ base : Heap, K.In base → base.Ns mainGlobals mg → FnG P w K mg base k fa fd [x] sp) (hbind : ∀ (s : Shared) (u : Value), BindsTo s fd ⟨[u], []⟩ [(x, u)])
    (hsp : ∀ H : Hp, SqL K H a (ns.map V.int) → sp [.ref a] H (fun v _ => v = .bl true) fun _ _ _ => False) :
    codeAny (model P w) callerA (.call (.ref fa) ⟨[.ref a], []⟩) (fun r s2 => r = .ok (.ret (.bool true)) ∧ OldK s1.heap s2.heap ∧ s2.os = s1.os ∧ AllBare s2.gens) s1 := by
  have go : ∀ H : Hp, Only H → SqL K H a (ns.map V.int) → HOk P w H s1.heap → (∀ b, H b ≠ none → b = a) → (H a ≠ none → K.lookup a = none) →
      codeAny (model P w) callerA (.call (.ref fa) ⟨[.ref a], []⟩) (fun r s2 => r = .ok (.ret (.bool true)) ∧ OldK s1.heap s2.heap ∧ s2.os = s1.os ∧ AllBare s2.gens) s1 := by
    intro H only seq hok own ink
    have nodict : ∀ {b : Addr} {o : Obj} {es : Array DictEntry} {ep : Nat}, s1.heap.get? b = some o → o.data = .dict es ep → H b = none := fun {b o es ep} e d => by
      cases q : H b with
      | none => rfl
      | some u =>
        obtain rfl := own b (by rw [q]; simp)
        rw [ha] at e
        cases e
        cases (show Data.seq us.toArray _ = Data.dict es ep from d)
    have ns2 : ∀ {b : Addr} {m : Str → Option Value}, s1.heap.Ns b m → (hidT s1.heap H).Ns b m := fun ⟨o, es, ep, e, d, r⟩ => ⟨o, es, ep, hidT_get e (nodict e d), d, r⟩
    have kin2 : K.In (hidT s1.heap H) := fun b o e => hidT_get (kin b o e) (by
      cases q : H b with
      | none => rfl
      | some u =>
        obtain rfl := own b (by rw [q]; simp)
        rw [ink (by rw [q]; simp)] at e
        cases e)
    have nol2 : (hidT s1.heap H).NoLimit := by
      obtain ⟨mc, g1, g2⟩ := nol
      exact ⟨mc, ns2 g1, g2⟩
    have e0 : Env0 P w K mg (hidT s1.heap H) callerA [] s1 H :=
      { frames := rfl, mod := ⟨kin2, ns2 hmg, ⟨mb, ns2 hmb, hbb⟩, nol2⟩, bs := fun b o e => of_hidT e, bsz := Nat.le_of_eq (hidT_size _ _), funs := trivial
        frf := fun b hb => absurd (show b ∈ ([] : List Addr) from hb) (by simp), hok := hok, bare := .of_eq hgen }
    have done := (G _ kin2 (ns2 hmg)).run callerA [] s1 H ⟨[.ref a], []⟩ [.ref a] [.ref a] _ _ room rfl e0 (hbind s1 (.ref a)) (.cons rfl .nil) (hsp H seq)
    refine codeAny_mono done fun r s2 h => ?_
    cases r with
    | error e =>
      obtain ⟨_, _, _, _, _, _, _, _, _, _, _, _, z⟩ := h
      exact z.elim
    | ok fl =>
      cases fl with
      | ret u =>
        obtain ⟨v, H2, os, bare, un, hok2, r2, q⟩ := h
        obtain rfl : v = .bl true := q
        obtain rfl : u = Value.bool true := r2
        refine ⟨rfl, OldK.of_keep fun b o e => ?_, os, bare⟩
        cases q : H b with
        | none => exact un.keep b o e q (fun z => absurd (show b ∈ ([] : List Addr) from z) (by simp)) (by simp)
        | some u =>
          rcases only b with z | ⟨ob, xs, z⟩
          · rw [q] at z
            cases z
          · have f1 := (hok b _ z).1
            have f2 := (hok2 b _ (un.frzs b ob _ z)).1
            rw [e] at f1
            cases f1
            exact f2
      | next => exact False.elim h
      | brk => exact False.elim h
      | cont => exact False.elim h
  have rv := vals_ints hi
  have le := hi.length
  let ob : Obj := { cls := .type "list", data := .seq us.toArray }
  cases hk : K.lookup a with
  | some o =>
    have e := kin a o hk
    rw [ha] at e
    cases e
    exact go (fun _ => none) (fun _ => .inl rfl) (.inr ⟨ob, us.toArray, _, hk, rfl, rfl, rfl, by rw [List.size_toArray, le]; exact hl, by simpa using rv⟩)
      (fun b u z => by cases (show (none : Option HO) = some u from z)) (fun b z => absurd rfl z) fun z => absurd rfl z
  | none =>
    have at_ : ∀ b, (if b = a then some (HO.frz ob (.lst (ns.map V.int))) else none) = none ∨ b = a := fun b => by
      by_cases hb : b = a
      · exact .inr hb
      · exact .inl (if_neg hb)
    refine go (fun b => if b = a then some (.frz ob (.lst (ns.map V.int))) else none) (fun b => ?_) (.inl (.inr ⟨ob, if_pos rfl⟩)) (fun b u z => ?_) (fun b z => ?_) fun _ => hk
    · rcases at_ b with z | z
      · exact .inl z
      · exact .inr ⟨_, _, if_pos z⟩
    · rcases at_ b with q | rfl
      · exact nomatch q.symm.trans z
      · cases (if_pos rfl).symm.trans z
        exact ⟨ha, by rw [List.length_map]; exact hl, us, _, rv, ha⟩
    · rcases at_ b with q | q
      · exact absurd q z
      · exact q
end Ft
namespace Ft
variable [Wd]
open PySem PySem.Spec L2
theorem fs_mono {K : PySem.W.Frag} {φ φ' : Ms} {H H' : Hp} (e : Same (hid φ H) (hid φ' H')) {xs : List (Str × D)} {vs : List (Str × V)} (h : FsR K φ H xs vs) : FsR K φ' H' xs vs := by
  induction h with
  | nil => exact .nil
  | cons h1 _ ih => exact .cons (dp_mono e h1) ih
theorem ev_mono {cl : Nat → Addr} {K : PySem.W.Frag} {φ φ' : Ms} {H H' : Hp} (e : Same (hid φ H) (hid φ' H')) {x : Ev} {cls : Value} {dd : Option Addr} (h : EvR cl K φ H x cls dd) : EvR cl K φ' H' x cls dd := by
  obtain ⟨h1, h2⟩ := h
  refine ⟨h1, ?_⟩
  rcases h2 with h2 | ⟨d, vs, h2, h3, h4⟩
  · exact .inl h2
  · exact .inr ⟨d, vs, h2, e _ _ h3, fs_mono e h4⟩
theorem distinct_nd : ∀ {l : List Nat}, distinct l = true → l.Nodup
  | [], _ => List.nodup_nil
  | n :: r, h => by
    unfold distinct at h
    have h := Bool.and_eq_true_iff.mp h
    refine List.nodup_cons.mpr ⟨fun m => ?_, distinct_nd h.2⟩
    have := h.1
    simp [List.contains_iff_mem.mpr m] at this
    exact this m
theorem shut_dl {K : PySem.W.Frag} {φ : Ms} {H : Hp} {a : Addr} {ob : Ob} (h : OR' K φ H a ob) (hs : ob.shut = true) : a ∉ φ.fz := by
  cases ob with
  | dl xs => exact h.1
  | dd _ => exact h.1
  | rl _ => cases hs
  | rt _ => cases hs
  | mp _ => exact h.1
  | ins _ _ => cases hs
  | fz _ => cases hs
  | tok => exact h.elim
theorem getShut_at : ∀ {ns : List Nat} {S obs : Sto}, getShut S ns = some obs → obs.length = ns.length ∧ ∀ (k : Nat) (ob : Ob), obs[k]? = some ob → ob.shut = true ∧ ∃ n, ns[k]? = some n ∧ S[n]? = some ob
  | [], S, obs, h => by
    cases h
    exact ⟨rfl, fun k ob e => by simp at e⟩
  | n :: r, S, obs, h => by
    unfold getShut at h
    split at h
    · rename_i ob e0
      split at h
      · rename_i hs
        split at h
        · rename_i obs' e1
          cases h
          obtain ⟨a, b⟩ := getShut_at e1
          refine ⟨by simp [a], fun k ob' e => ?_⟩
          cases k with
          | zero =>
            simp at e
            subst e
            exact ⟨hs, n, rfl, e0⟩
          | succ k =>
            simp at e
            obtain ⟨c, n', d, e⟩ := b k ob' e
            exact ⟨c, n', by simpa using d, e⟩
        · cases h
      · cases h
    · cases h
theorem putShut_at : ∀ {ns : List Nat} {S S1 S2 : Sto}, ns.Nodup → putShut S ns S1 = some S2 → S2.length = S.length ∧ (∀ m : Nat, m ∉ ns → S2[m]? = S[m]?) ∧ (∀ (k n : Nat), ns[k]? = some n → ∃ ob : Ob, S1[k]? = some ob ∧ ob.shut = true ∧ (n < S.length → S2[n]? = some ob))
  | [], S, S1, S2, _, h => by
    unfold putShut at h
    cases h
    exact ⟨rfl, fun _ _ => rfl, fun k n e => by simp at e⟩
  | n :: r, S, [], S2, _, h => by cases h
  | n :: r, S, ob :: obs, S2, nd, h => by
    unfold putShut at h
    split at h
    rotate_left
    · cases h
    rename_i hs
    obtain ⟨n1, n2⟩ := List.nodup_cons.mp nd
    obtain ⟨a, b, c⟩ := putShut_at n2 h
    refine ⟨by rw [a]; simp, fun m hm => ?_, fun k n' e => ?_⟩
    · simp at hm
      rw [b m hm.2, List.getElem?_set_ne (fun z => hm.1 z.symm)]
    · cases k with
      | zero =>
        simp at e
        subst e
        refine ⟨ob, rfl, hs, fun hl => ?_⟩
        rw [b n n1, List.getElem?_set]
        simp [hl]
      | succ k =>
        simp at e
        obtain ⟨ob', c1, c2, c3⟩ := c k n' e
        exact ⟨ob', by simpa using c1, c2, fun hl => c3 (by simpa using hl)⟩
theorem iso_vals {K : PySem.W.Frag} {φ φc : Ms} {H : Hp} (e : Same (hid φ H) (hid φc H)) : ∀ {ws : List W} {vs : List V} {k : Nat}, WRs K φ H ws vs → (∀ (j n : Nat), (refsOf ws)[j]? = some n → ∀ a : Addr, φ.at_[n]? = some a → φc.at_[k + j]? = some a) → WRs K φc H (isoIn ws k) vs
  | [], _, _, h, _ => by cases h; exact .nil
  | .d x :: r, _, k, h, q => by
    cases h with
    | cons h1 h2 => exact .cons (dp_mono e h1) (iso_vals e h2 q)
  | .ref n :: r, _, k, h, q => by
    cases h with
    | cons h1 h2 =>
      obtain ⟨a, ea, rfl⟩ := h1
      refine .cons ⟨a, q 0 n rfl a ea, rfl⟩ (iso_vals (k := k + 1) e h2 fun j m ej b eb => ?_)
      have := q (j + 1) m (by simpa [refsOf] using ej) b eb
      rw [show k + 1 + j = k + (j + 1) by omega]
      exact this
theorem refs_at {K : PySem.W.Frag} {φ : Ms} {H : Hp} : ∀ {ws : List W} {vs : List V}, WRs K φ H ws vs → ∀ n ∈ refsOf ws, ∃ a, φ.at_[n]? = some a
  | [], _, h, n, m => by cases m
  | .d x :: r, _, h, n, m => by
    cases h with
    | cons h1 h2 => exact refs_at h2 n m
  | .ref n' :: r, _, h, n, m => by
    cases h with
    | cons h1 h2 =>
      cases m with
      | head => exact let ⟨a, e, _⟩ := h1; ⟨a, e⟩
      | tail _ m => exact refs_at h2 n m
/-- the callee's things -/
def isoMs (φ : Ms) (as_ : List Addr) : Ms := ⟨as_, (φ.at_.filter fun a => decide (a ∉ as_ ∧ a ∉ φ.fz)) ++ φ.ex, []⟩
theorem iso_has {φ : Ms} {as_ : List Addr} (h : ∀ a ∈ as_, a ∈ φ.at_ ∧ a ∉ φ.fz) (a : Addr) : (isoMs φ as_).has a ↔ φ.has a := by
  unfold Ms.has isoMs
  simp only [List.not_mem_nil, not_false_eq_true, and_true, List.mem_append, List.mem_filter, decide_eq_true_eq]
  constructor
  · rintro (m | ⟨m, _, f⟩ | m)
    · exact .inl (h a m)
    · exact .inl ⟨m, f⟩
    · exact .inr m
  · rintro (⟨m, f⟩ | m)
    · by_cases hm : a ∈ as_
      · exact .inl hm
      · exact .inr (.inl ⟨m, hm, f⟩)
    · exact .inr (.inr m)
theorem iso_hid {φ : Ms} {as_ : List Addr} (h : ∀ a ∈ as_, a ∈ φ.at_ ∧ a ∉ φ.fz) (H : Hp) : hid (isoMs φ as_) H = hid φ H := by
  funext a
  unfold hid
  by_cases c : φ.has a
  · rw [if_pos c, if_pos ((iso_has h a).mpr c)]
  · rw [if_neg c, if_neg fun z => c ((iso_has h a).mp z)]
/-- behind the call -/
theorem iso_back {K : PySem.W.Frag} {φ φ' : Ms} {H H' : Hp} {S S1 S2 obs : Sto} {ns : List Nat} {as_ : List Addr} (sr : SR K φ H S) (nd : ns.Nodup) (hg : getShut S ns = some obs) (has : as_.length = ns.length) (hat : ∀ (k n : Nat), ns[k]? = some n → ∃ a, φ.at_[n]? = some a ∧ as_[k]? = some a) (hin : ∀ a ∈ as_, a ∈ φ.at_ ∧ a ∉ φ.fz)
    (n : Nx (isoMs φ as_) H φ' H') (s1 : SR K φ' H' S1) (hp : putShut S ns S1 = some S2) (l2 : List Addr) (hl2 : ∀ a ∈ l2, H a = none ∧ a ∈ φ'.at_ ∧ a ∉ φ'.fz) (hl1 : l2.Nodup) (obl : List Ob) (hob : obl.length = l2.length) (hol : ∀ (k : Nat) ob a, obl[k]? = some ob → l2[k]? = some a → OR' K φ' H' a ob) (hsh : ∀ ob ∈ obl, ob.shut = true) :
    let φ2 : Ms := ⟨φ.at_ ++ l2, φ.ex, φ.fz⟩
    SR K φ2 H' (S2 ++ obl) ∧ Nx φ H φ2 H' ∧ Same (hid φ' H') (hid φ2 H') := by
  intro φ2
  obtain ⟨p1, p2, p3⟩ := putShut_at nd hp
  obtain ⟨l, pre, prel⟩ := n.pre
  have nx : Nx φ H φ2 H' := ⟨⟨l2, rfl, fun a m => (hl2 a m).1⟩, rfl, fun _ z => z, fun a o e c => n.keep a o e fun z => c (hin a z.1), n.stay⟩
  -- no argument was frozen
  have nf : ∀ a ∈ as_, a ∉ φ'.fz := fun a m => by
    obtain ⟨k, hk, e⟩ := List.mem_iff_getElem.mp m
    obtain ⟨ob, q1, q2, _⟩ := p3 k ns[k] (List.getElem?_eq_getElem (by rw [← has]; exact hk))
    have q3 : φ'.at_[k]? = some a := by
      rw [pre]
      show (as_ ++ l)[k]? = some a
      rw [List.getElem?_append_left hk, List.getElem?_eq_getElem hk, e]
    exact shut_dl (s1.at_ k ob a q1 q3) q2
  have sm : Same (hid φ' H') (hid φ2 H') := fun a o e => by
    obtain ⟨e1, e2⟩ := hid_some e
    refine hid_of (fun m => e1 ?_) e2
    rcases m with ⟨m, f⟩ | m
    · have m : a ∈ φ.at_ ++ l2 := m
      rcases List.mem_append.mp m with m | m
      · have f : a ∉ φ.fz := f
        rcases (iso_has hin a).mpr (.inl ⟨m, f⟩) with ⟨z, _⟩ | z
        · exact .inl ⟨by rw [pre]; exact List.mem_append_left _ z, nf a z⟩
        · exact .inr (by rw [n.ex]; exact z)
      · exact .inl (hl2 a m).2
    · have m : a ∈ φ.ex := m
      exact .inr (by rw [n.ex]; exact List.mem_append_right _ m)
  have smx : Same (hid φ H) (hid φ2 H') := nx.same
  refine ⟨⟨?_, ?_, fun m ob a e1 e2 => ?_, fun a m z => ?_, fun a m => n.stay a (sr.ext a m), fun a m => n.stay a (sr.fzt a m)⟩, nx, sm⟩
  · show (φ.at_ ++ l2).Nodup
    rw [List.nodup_append]
    exact ⟨sr.nd, hl1, fun a ma b mb z => sr.there0 a ma (by rw [z]; exact (hl2 b mb).1)⟩
  · show (φ.at_ ++ l2).length = (S2 ++ obl).length
    rw [List.length_append, List.length_append, sr.len, p1, hob]
  · have e2 : (φ.at_ ++ l2)[m]? = some a := e2
    by_cases hm : m < S.length
    · rw [List.getElem?_append_left (by rw [sr.len]; exact hm)] at e2
      rw [List.getElem?_append_left (by rw [p1]; exact hm)] at e1
      by_cases hmn : m ∈ ns
      · obtain ⟨k, hk, ek⟩ := List.mem_iff_getElem.mp hmn
        have ek' : ns[k]? = some m := by rw [List.getElem?_eq_getElem hk, ek]
        obtain ⟨ob', q1, q2, q3⟩ := p3 k m ek'
        have e3 := q3 hm
        rw [e1] at e3
        have e3 := Option.some.inj e3
        subst e3
        obtain ⟨a', r1, r2⟩ := hat k m ek'
        rw [e2] at r1
        have r1 := Option.some.inj r1
        subst r1
        have q4 : φ'.at_[k]? = some a := by
          rw [pre]
          show (as_ ++ l)[k]? = some a
          rw [List.getElem?_append_left (List.getElem?_eq_some_iff.mp r2).1]
          exact r2
        have z := s1.at_ k _ a q1 q4
        have fza := (hin a (List.mem_of_getElem? r2)).2
        cases ob with
        | dl xs =>
          obtain ⟨_, vs, e3, r⟩ := z
          exact ⟨fza, vs, e3, dps_mono sm r⟩
        | dd xs =>
          obtain ⟨_, vs, e3, r⟩ := z
          exact ⟨fza, vs, e3, r.mono sm⟩
        | rl _ => cases q2
        | rt _ => cases q2
        | mp xs => exact ⟨fza, z.2.monod sm (fun _ e => e) q2⟩
        | ins _ _ => cases q2
        | fz _ => cases q2
        | tok => exact z.elim
      · rw [p2 m hmn] at e1
        refine (sr.at_ m ob a e1 e2).to rfl (fun k b e => at_app (show φ.at_[k]? = some b from e)) (fun o z => n.keep a o z fun ⟨y, _⟩ => ?_) smx
        have y : a ∈ as_ := y
        obtain ⟨k, hk, ek⟩ := List.mem_iff_getElem.mp y
        obtain ⟨a', r1, r2⟩ := hat k ns[k] (List.getElem?_eq_getElem (by rw [← has]; exact hk))
        rw [List.getElem?_eq_getElem hk, ek] at r2
        cases r2
        obtain ⟨i1, j1⟩ := List.getElem?_eq_some_iff.mp r1
        obtain ⟨i2, j2⟩ := List.getElem?_eq_some_iff.mp e2
        have := (List.getElem_inj sr.nd).mp (j1.trans j2.symm)
        exact hmn (by rw [← this]; exact List.getElem_mem _)
    · rw [List.getElem?_append_right (by rw [sr.len]; omega), sr.len] at e2
      rw [List.getElem?_append_right (by rw [p1]; omega), p1] at e1
      have z := hol _ ob a e1 e2
      have na : a ∉ φ.fz := fun y => sr.fzt a y (hl2 a (List.mem_of_getElem? e2)).1
      have nb : a ∉ φ'.fz := (hl2 a (List.mem_of_getElem? e2)).2.2
      cases ob with
      | dl xs =>
        obtain ⟨_, vs, e3, r⟩ := z
        exact ⟨na, vs, e3, dps_mono sm r⟩
      | dd xs =>
        obtain ⟨_, vs, e3, r⟩ := z
        exact ⟨na, vs, e3, r.mono sm⟩
      | fz xs => exact absurd z.1 nb
      | rl xs => exact absurd (hsh _ (List.mem_of_getElem? e1)) (by simp [Ob.shut])
      | rt xs => exact absurd (hsh _ (List.mem_of_getElem? e1)) (by simp [Ob.shut])
      | mp xs => exact ⟨na, z.2.monod sm (fun _ e => e) (hsh _ (List.mem_of_getElem? e1))⟩
      | _ => exact z.elim
  · have z : a ∈ φ.at_ ++ l2 := z
    rcases List.mem_append.mp z with z | z
    · exact sr.ap a m z
    · exact sr.ext a m (hl2 a z).1
theorem iso_in {cl : Nat → Addr} {K : PySem.W.Frag} {W1 : WX} {fresh : Bool} {run : List W → Sto → Res W} {ws : List W} {S : Sto} {φ : Ms} {H : Hp} {vs : List V} {Q : VK} (sr : SR K φ H S) (r : WRs K φ H ws vs) (h : Out cl K W1 (WR K) [] φ H (isoCall fresh run ws S) Q) :
    ∃ φc obs, WRs K φc H (isoIn ws 0) vs ∧ SR K φc H obs ∧ Out cl K W1 (WR K) [] φc H (run (isoIn ws 0) obs) Q := by
  unfold isoCall at h
  cases hd : distinct (refsOf ws) with
  | false => rw [hd] at h; exact h.elim
  | true =>
    rw [hd] at h
    cases hg : getShut S (refsOf ws) with
    | none => rw [hg] at h; exact h.elim
    | some obs =>
      rw [hg] at h
      dsimp only at h
      have nd := distinct_nd hd
      obtain ⟨g1, g2⟩ := getShut_at hg
      let as_ := (refsOf ws).map fun n => φ.at_.getD n 0
      have has : as_.length = (refsOf ws).length := List.length_map ..
      have hat : ∀ (k n : Nat), (refsOf ws)[k]? = some n → ∃ a, φ.at_[n]? = some a ∧ as_[k]? = some a := fun k n e => by
        obtain ⟨a, ea⟩ := refs_at r n (List.mem_of_getElem? e)
        refine ⟨a, ea, ?_⟩
        show ((refsOf ws).map fun n => φ.at_.getD n 0)[k]? = some a
        rw [List.getElem?_map, e]
        simp [List.getD_eq_getElem?_getD, ea]
      have hin : ∀ a ∈ as_, a ∈ φ.at_ ∧ a ∉ φ.fz := fun a m => by
        obtain ⟨k, hk, e⟩ := List.mem_iff_getElem.mp m
        have hk' : k < (refsOf ws).length := by rw [← has]; exact hk
        obtain ⟨a', e1, e2⟩ := hat k _ (List.getElem?_eq_getElem hk')
        rw [List.getElem?_eq_getElem hk, e] at e2
        cases e2
        refine ⟨List.mem_of_getElem? e1, ?_⟩
        have hko : k < obs.length := by rw [g1]; exact hk'
        obtain ⟨sh, n, e3, e4⟩ := g2 k _ (List.getElem?_eq_getElem hko)
        rw [List.getElem?_eq_getElem hk'] at e3
        cases e3
        exact shut_dl (sr.at_ _ _ a e4 e1) sh
      have eh := iso_hid hin H
      refine ⟨isoMs φ as_, obs, iso_vals (by rw [eh]; exact Same.refl _) r (fun j n e a ea => ?_), ⟨?_, ?_, fun k ob a e1 e2 => ?_, fun a m z => ?_, fun a m => ?_, fun a m => by cases m⟩, ?_⟩
      · obtain ⟨a', e1, e2⟩ := hat j n e
        rw [ea] at e1
        cases e1
        show as_[0 + j]? = some a
        rw [Nat.zero_add]
        exact e2
      · show as_.Nodup
        refine List.pairwise_iff_getElem.mpr fun i j hi hj hij e => ?_
        obtain ⟨a1, e1, e2⟩ := hat i _ (List.getElem?_eq_getElem (by rw [← has]; exact hi))
        obtain ⟨a2, e3, e4⟩ := hat j _ (List.getElem?_eq_getElem (by rw [← has]; exact hj))
        rw [List.getElem?_eq_getElem hi] at e2
        rw [List.getElem?_eq_getElem hj] at e4
        cases e2; cases e4
        obtain ⟨i1, j1⟩ := List.getElem?_eq_some_iff.mp e1
        obtain ⟨i2, j2⟩ := List.getElem?_eq_some_iff.mp e3
        have q1 := (List.getElem_inj sr.nd).mp (j1.trans (e.trans j2.symm))
        have q2 := (List.getElem_inj nd).mp q1
        omega
      · show as_.length = obs.length
        rw [has, g1]
      · obtain ⟨sh, n, e3, e4⟩ := g2 k ob e1
        obtain ⟨a', e5, e6⟩ := hat k n e3
        have e2 : as_[k]? = some a := e2
        rw [e2] at e6
        cases e6
        have z := sr.at_ n ob a e4 e5
        cases ob with
        | dl xs =>
          obtain ⟨_, us, e7, r7⟩ := z
          refine ⟨List.not_mem_nil, us, e7, ?_⟩
          show DpAll K (hid (isoMs φ as_) H) us xs
          rw [eh]
          exact r7
        | dd xs =>
          obtain ⟨_, us, e7, r7⟩ := z
          refine ⟨List.not_mem_nil, us, e7, ?_⟩
          show KR K (hid (isoMs φ as_) H) us xs
          rw [eh]
          exact r7
        | rl _ => cases sh
        | rt _ => cases sh
        | mp xs => exact ⟨List.not_mem_nil, z.2.monod (by rw [eh]; exact Same.refl _) (fun _ e => e) sh⟩
        | ins _ _ => cases sh
        | fz _ => cases sh
        | tok => exact z.elim
      · have z : a ∈ as_ := z
        have m : a ∈ (φ.at_.filter fun a => decide (a ∉ as_ ∧ a ∉ φ.fz)) ++ φ.ex := m
        rcases List.mem_append.mp m with m | m
        · have := (List.mem_filter.mp m).2
          simp only [decide_eq_true_eq] at this
          exact this.1 z
        · exact sr.ap a m (hin a z).1
      · exact sr.there a ((iso_has hin a).mp (.inr m))
      · cases q : run (isoIn ws 0) obs with
        | no => rw [q] at h; exact h.elim
        | exc e S1 =>
          rw [q] at h
          dsimp only at h
          cases hp : putShut S (refsOf ws) S1 with
          | none => rw [hp] at h; exact h.elim
          | some S2 =>
            rw [hp] at h
            intro φ' cls dd H' n s1 ev
            obtain ⟨b1, b2, b3⟩ := iso_back sr nd hg has hat hin n s1 hp [] (fun a m => by cases m) List.nodup_nil [] rfl (fun k ob a e => by simp at e) (fun ob m => by cases m)
            simp only [List.append_nil] at b1 b2 b3
            exact h φ cls dd H' b2 b1 (ev_mono b3 ev)
        | ok w S1 =>
          rw [q] at h
          dsimp only at h
          cases hp : putShut S (refsOf ws) S1 with
          | none => rw [hp] at h; exact h.elim
          | some S2 =>
            rw [hp] at h
            dsimp only at h
            intro φ' v H' n s1 rv
            obtain ⟨b1, b2, b3⟩ := iso_back sr nd hg has hat hin n s1 hp [] (fun a m => by cases m) List.nodup_nil [] rfl (fun k ob a e => by simp at e) (fun ob m => by cases m)
            simp only [List.append_nil] at b1 b2 b3
            obtain ⟨l, pre, prel⟩ := n.pre
            cases w with
            | d x => exact h φ v H' b2 b1 (dp_mono b3 rv)
            | ref k =>
              obtain ⟨a, ea, rfl⟩ := rv
              dsimp only at h
              by_cases hk : k < (refsOf ws).length
              · rw [if_pos hk, List.getElem?_eq_getElem hk] at h
                obtain ⟨a', e1, e2⟩ := hat k _ (List.getElem?_eq_getElem hk)
                have : φ'.at_[k]? = some a' := by
                  rw [pre]
                  show (as_ ++ l)[k]? = _
                  rw [List.getElem?_append_left (by rw [has]; exact hk)]
                  exact e2
                rw [ea] at this
                cases this
                exact h φ _ H' b2 b1 ⟨a, e1, rfl⟩
              · rw [if_neg hk] at h
                have hal : H a = none := by
                  have ea := ea
                  rw [pre] at ea
                  have ea : (as_ ++ l)[k]? = some a := ea
                  rw [List.getElem?_append_right (by rw [has]; omega)] at ea
                  exact prel a (List.mem_of_getElem? ea)
                cases qk : S1[k]? with
                | none => rw [qk] at h; exact h.elim
                | some ob =>
                  rw [qk] at h
                  have z := s1.at_ k ob a qk ea
                  cases ob with
                  | dl xs =>
                    dsimp only at h
                    obtain ⟨nf, us, e7, r7⟩ := id z
                    cases fresh with
                    | false =>
                      rw [if_neg Bool.false_ne_true] at h
                      refine h φ _ H' b2 b1 (.lst (SqL.of (hid_of (fun m => sr.there a m hal) e7)) (dps_mono b3 r7))
                    | true =>
                      rw [if_pos rfl] at h
                      obtain ⟨c1, c2, c3⟩ := iso_back sr nd hg has hat hin n s1 hp [a] (fun b m => by simp at m; subst m; exact ⟨hal, List.mem_of_getElem? ea, nf⟩) (by simp) [.dl xs] rfl (fun j ob b e1 e2 => by
                        cases j with
                        | zero => simp at e1 e2; subst e1 e2; exact z
                        | succ j => simp at e1) (fun ob m => by rw [List.mem_singleton.mp m]; rfl)
                      refine h _ _ H' c2 c1 ⟨a, ?_, rfl⟩
                      show (φ.at_ ++ [a])[S2.length]? = some a
                      have hl := b1.len
                      rw [← hl, List.getElem?_append_right (Nat.le_refl _)]
                      simp
                  | dd xs =>
                    dsimp only at h
                    obtain ⟨nf, us, e7, r7⟩ := id z
                    cases fresh with
                    | false =>
                      rw [if_neg Bool.false_ne_true] at h
                      exact False.elim h
                    | true =>
                      rw [if_pos rfl] at h
                      obtain ⟨c1, c2, c3⟩ := iso_back sr nd hg has hat hin n s1 hp [a] (fun b m => by simp at m; subst m; exact ⟨hal, List.mem_of_getElem? ea, nf⟩) (by simp) [.dd xs] rfl (fun j ob b e1 e2 => by
                        cases j with
                        | zero => simp at e1 e2; subst e1 e2; exact z
                        | succ j => simp at e1) (fun ob m => by rw [List.mem_singleton.mp m]; rfl)
                      refine h _ _ H' c2 c1 ⟨a, ?_, rfl⟩
                      show (φ.at_ ++ [a])[S2.length]? = some a
                      have hl := b1.len
                      rw [← hl, List.getElem?_append_right (Nat.le_refl _)]
                      simp
                  | mp xs =>
                    dsimp only at h
                    have nf := z.1
                    split at h
                    · rename_i c
                      obtain ⟨c1, c2, c3⟩ := iso_back sr nd hg has hat hin n s1 hp [a] (fun b m => by simp at m; subst m; exact ⟨hal, List.mem_of_getElem? ea, nf⟩) (by simp) [.mp xs] rfl (fun j ob b e1 e2 => by
                        cases j with
                        | zero => simp at e1 e2; subst e1 e2; exact z
                        | succ j => simp at e1) (fun ob m => by rw [List.mem_singleton.mp m]; exact c.2)
                      refine h _ _ H' c2 c1 ⟨a, ?_, rfl⟩
                      show (φ.at_ ++ [a])[S2.length]? = some a
                      have hl := b1.len
                      rw [← hl, List.getElem?_append_right (Nat.le_refl _)]
                      simp
                    · exact False.elim h
                  | _ => exact False.elim h
end Ft
namespace Ft
variable [Wd]
open PySem PySem.Spec L2
def mulOk (i j : Int) : Bool := decide ((Builtin.Int.intBits i : Int) + (Builtin.Int.intBits j : Int) ≤ 134217728)
def dAdd : D → D → Option D
  | .int i, .int j => some (.int (i + j))
  | .str x, .str y => if x.length + y.length ≤ sizeLine then some (.str (x ++ y)) else none
  | .tuple xs, .tuple ys => if xs.length + ys.length ≤ sizeLine then some (.tuple (xs ++ ys)) else none
  | .list xs, .list ys => if xs.length + ys.length ≤ sizeLine then some (.list (xs ++ ys)) else none
  | _, _ => none
def dSub' : D → D → Option D
  | .int i, .int j => some (.int (i - j))
  | _, _ => none
def repD (xs : List D) (k : Nat) : List D := (List.replicate k xs).flatten
def dDiv : D → D → Option D
  | .int i, .int j => if 0 < j ∧ j < 4611686018427387904 then some (.int (i / j)) else none
  | _, _ => none
def dMod : D → D → Option D
  | .int i, .int j => if 0 < j then some (.int (i % j)) else none
  | _, _ => none
def dPow : D → D → Option D
  | .int i, .int j => if 0 ≤ j ∧ j ≤ 1000000 ∧ i.natAbs < 2 ^ 64 then some (.int (i ^ j.toNat)) else none
  | _, _ => none
def dShl : D → D → Option D
  | .int i, .int j => if 0 ≤ j ∧ (Builtin.Int.intBits i : Int) + j ≤ 2 ^ 27 then some (.int (i * 2 ^ j.toNat)) else none
  | _, _ => none
def dShr : D → D → Option D
  | .int i, .int j => if 0 ≤ j then some (.int (i / 2 ^ j.toNat)) else none
  | _, _ => none
def dAnd : D → D → Option D
  | .int i, .int j => some (.int (Builtin.bitAnd i j))
  | _, _ => none
def dOr : D → D → Option D
  | .int i, .int j => some (.int (Builtin.bitOr i j))
  | _, _ => none
def dXor : D → D → Option D
  | .int i, .int j => some (.int (Builtin.bitXor i j))
  | _, _ => none
def dNeg : D → Option D
  | .int i => some (.int (-i))
  | _ => none
def dEq (x y : D) : Option D := match x, y with
  | .int i, .int j => some (.bool (decide (i = j)))
  | .str i, .str j => some (.bool (decide (i = j)))
  | x, y => if SeqAt.shaped x = true ∧ SeqAt.shaped y = true then some (.bool (PyData.eqv x y)) else none
def dNe (x y : D) : Option D := match x, y with
  | .int i, .int j => some (.bool (!decide (i = j)))
  | .str i, .str j => some (.bool (!decide (i = j)))
  | x, y => if SeqAt.shaped x = true ∧ SeqAt.shaped y = true then some (.bool (!PyData.eqv x y)) else none
def dLt : D → D → Option D
  | .int i, .int j => some (.bool (decide (i < j)))
  | .str i, .str j => some (.bool (decide (i.cps.toList < j.cps.toList)))
  | _, _ => none
def atomD : D → Option (Int ⊕ List Nat)
  | .int i => some (.inl i)
  | .str x => some (.inr x.cps.toList)
  | _ => none
def atomsD : List D → Option (List (Int ⊕ List Nat))
  | [] => some []
  | d :: r => match atomD d, atomsD r with
    | some a, some b => some (a :: b)
    | _, _ => none
/-- tuples of numbers and texts -/
def leDs (xs ys : List D) : Option D := match atomsD xs, atomsD ys with
  | some as, some bs => if cmpF as bs = true then some (.bool (!PyProof.Rows.lexLt PyProof.Rows.itemOrd bs as)) else none
  | _, _ => none
def dLe : D → D → Option D
  | .int i, .int j => some (.bool (decide (i ≤ j)))
  | .str i, .str j => some (.bool (!decide (j.cps.toList < i.cps.toList)))
  | .tuple xs, .tuple ys => leDs xs ys
  | _, _ => none
def dGt : D → D → Option D
  | .int i, .int j => some (.bool (decide (j < i)))
  | .str i, .str j => some (.bool (decide (j.cps.toList < i.cps.toList)))
  | _, _ => none
def dGe : D → D → Option D
  | .int i, .int j => some (.bool (decide (j ≤ i)))
  | .str i, .str j => some (.bool (!decide (i.cps.toList < j.cps.toList)))
  | _, _ => none
def isNo : D → Bool
  | .none => true
  | _ => false
/-- is, is not: None on the right, or both truth values -/
def dIs (x y : D) : Option D := match x, y with
  | .bool a, .bool b => some (.bool (decide (a = b)))
  | x, .none => some (.bool (isNo x))
  | _, _ => none
def dIsNot (x y : D) : Option D := match x, y with
  | .bool a, .bool b => some (.bool (!decide (a = b)))
  | x, .none => some (.bool (!isNo x))
  | _, _ => none
/-- a sign in a text; an item in a list -/
def dIn (x y : D) : Option D := match x, y with
  | .str z, .str t => if z.cps.size = 1 then some (.bool (decide (z.cps.getD 0 0 ∈ t.cps.toList))) else none
  | x, .list ds => if SeqAt.shaped x = true ∧ SeqAt.shaped (.list ds) = true then some (.bool (ds.any fun z => PyData.eqv z x)) else none
  | x, .tuple ds => if SeqAt.shaped x = true ∧ SeqAt.shaped (.tuple ds) = true then some (.bool (ds.any fun z => PyData.eqv z x)) else none
  | _, _ => none
def dNotIn (x y : D) : Option D := match x, y with
  | .str z, .str t => if z.cps.size = 1 then some (.bool (!decide (z.cps.getD 0 0 ∈ t.cps.toList))) else none
  | x, .list ds => if SeqAt.shaped x = true ∧ SeqAt.shaped (.list ds) = true then some (.bool (!ds.any fun z => PyData.eqv z x)) else none
  | x, .tuple ds => if SeqAt.shaped x = true ∧ SeqAt.shaped (.tuple ds) = true then some (.bool (!ds.any fun z => PyData.eqv z x)) else none
  | _, _ => none
section
variable {X : Cx}
theorem opd_int {f : Value → Value → Sem Value} {g : D → D → Option D} {C : Int → Int → Prop} {h : Int → Int → Int} (ho : OpR X f (rI C fun i j => .int (h i j))) (hg : ∀ x y z, g x y = some z → ∃ i j, x = .int i ∧ y = .int j ∧ C i j ∧ z = .int (h i j)) : OpD X f g := fun φ pins s σ H x y v u Q I rx ry ⟨d, e, z, hd, he, eg, th, k⟩ => by
  obtain ⟨i, j, rfl, rfl, c, rfl⟩ := hg d e z eg
  cases hd
  cases he
  exact ho pins s σ H _ _ v u Q I rx ry ⟨i, j, rfl, rfl, c, k _ H (Same.refl _) (.int _)⟩
theorem opd_boo {f : Value → Value → Sem Value} {g : D → D → Option D} {r : R2} (ho : OpR X f r) (hg : ∀ φ H x y d e z (Q : VK), Dp X.K (hid φ H) x d → Dp X.K (hid φ H) y e → g d e = some z → (∀ v H', Same H H' → Dp X.K (hid φ H') v z → Q v H') → r x y H Q) : OpD X f g := fun φ pins s σ H x y v u Q I rx ry ⟨d, e, z, hd, he, eg, th, k⟩ =>
  ho pins s σ H x y v u Q I rx ry (hg φ H x y d e z Q hd he eg k)
theorem od_sub : OpD X (binaryOp .Sub) dSub' := opd_int (C := fun _ _ => True) (h := fun i j => i - j) (fun pins s σ H x y v u Q I rx ry ⟨i, j, e1, e2, _, q⟩ => op_sub pins s σ H x y v u Q I rx ry ⟨i, j, e1, e2, q⟩) fun x y z e => by
  cases x <;> cases y <;> first | (cases e; exact ⟨_, _, rfl, rfl, trivial, rfl⟩) | cases e
theorem log2_small {j : Int} (h : j < 4611686018427387904) (h0 : 0 < j) : j.natAbs.log2 < 9000 := by
  have hn : j.natAbs ≠ 0 := by omega
  have : j.natAbs.log2 < 62 := (Nat.log2_lt hn).mpr (by omega)
  omega
theorem od_div : OpD X (binaryOp .FloorDiv) dDiv := opd_int (C := CDivW) (h := fun i j => i / j) op_fdivW fun x y z e => by
  cases x <;> cases y <;> try (cases e; done)
  rename_i i j
  have e : (if 0 < j ∧ j < 4611686018427387904 then some (PyData.int (i / j)) else none) = some z := e
  split at e
  · rename_i c
    cases e; exact ⟨_, _, rfl, rfl, ⟨c.1, log2_small c.2 c.1⟩, rfl⟩
  · cases e
theorem od_mod : OpD X (binaryOp .Mod) dMod := opd_int (C := fun _ j => 0 < j) (h := fun i j => i % j) op_mod fun x y z e => by
  cases x <;> cases y <;> try (cases e; done)
  rename_i i j
  have e : (if 0 < j then some (PyData.int (i % j)) else none) = some z := e
  split at e
  · cases e; exact ⟨_, _, rfl, rfl, by assumption, rfl⟩
  · cases e
theorem od_pow : OpD X (binaryOp .Pow) dPow := opd_int (C := CPow) (h := fun i j => i ^ j.toNat) op_pow fun x y z e => by
  cases x <;> cases y <;> try (cases e; done)
  rename_i i j
  have e : (if 0 ≤ j ∧ j ≤ 1000000 ∧ i.natAbs < 2 ^ 64 then some (PyData.int (i ^ j.toNat)) else none) = some z := e
  split at e
  · cases e; exact ⟨_, _, rfl, rfl, by assumption, rfl⟩
  · cases e
theorem od_shl : OpD X (binaryOp .LShift) dShl := opd_int (C := CShl) (h := fun i j => i * 2 ^ j.toNat) op_shlW fun x y z e => by
  cases x <;> cases y <;> try (cases e; done)
  rename_i i j
  have e : (if 0 ≤ j ∧ (Builtin.Int.intBits i : Int) + j ≤ 2 ^ 27 then some (PyData.int (i * 2 ^ j.toNat)) else none) = some z := e
  split at e
  · cases e; exact ⟨_, _, rfl, rfl, by assumption, rfl⟩
  · cases e
theorem od_shr : OpD X (binaryOp .RShift) dShr := opd_int (C := fun _ j => 0 ≤ j) (h := fun i j => i / 2 ^ j.toNat) op_shr fun x y z e => by
  cases x <;> cases y <;> try (cases e; done)
  rename_i i j
  have e : (if 0 ≤ j then some (PyData.int (i / 2 ^ j.toNat)) else none) = some z := e
  split at e
  · cases e; exact ⟨_, _, rfl, rfl, by assumption, rfl⟩
  · cases e
theorem od_and : OpD X (binaryOp .BitAnd) dAnd := opd_int (C := fun _ _ => True) (h := fun i j => Builtin.bitAnd i j) (fun pins s σ H x y v u Q I rx ry ⟨i, j, e1, e2, _, q⟩ => op_and pins s σ H x y v u Q I rx ry ⟨i, j, e1, e2, q⟩) fun x y z e => by
  cases x <;> cases y <;> first | (cases e; exact ⟨_, _, rfl, rfl, trivial, rfl⟩) | cases e
theorem od_or : OpD X (binaryOp .BitOr) dOr := opd_int (C := fun _ _ => True) (h := fun i j => Builtin.bitOr i j) (fun pins s σ H x y v u Q I rx ry ⟨i, j, e1, e2, _, q⟩ => op_or pins s σ H x y v u Q I rx ry ⟨i, j, e1, e2, q⟩) fun x y z e => by
  cases x <;> cases y <;> first | (cases e; exact ⟨_, _, rfl, rfl, trivial, rfl⟩) | cases e
theorem od_xor : OpD X (binaryOp .BitXor) dXor := opd_int (C := fun _ _ => True) (h := fun i j => Builtin.bitXor i j) (fun pins s σ H x y v u Q I rx ry ⟨i, j, e1, e2, _, q⟩ => op_xor pins s σ H x y v u Q I rx ry ⟨i, j, e1, e2, q⟩) fun x y z e => by
  cases x <;> cases y <;> first | (cases e; exact ⟨_, _, rfl, rfl, trivial, rfl⟩) | cases e
theorem ud_neg : UnD X (unaryOp .USub) dNeg := fun φ pins s σ H x v Q I rx ⟨d, z, hd, eg, th, k⟩ => by
  cases d <;> try (cases eg; done)
  cases eg
  cases hd
  exact un_neg pins s σ H _ v Q I rx ⟨_, rfl, k _ H (Same.refl _) (.int _)⟩
/-- a new tuple, a new list -/
theorem new_tup {φ : Ms} {H : Hp} {p : Addr} (hp : H p = none) (th : ∀ a, φ.has a → H a ≠ none) {vs : List V} {ds : List D} (r : DpAll X.K (hid φ H) vs ds) : Dp X.K (hid φ (upd H p (.tup vs))) (.ref p) (.tuple ds) := new_pair hp th r
theorem new_lst {φ : Ms} {H : Hp} {p : Addr} (hp : H p = none) (th : ∀ a, φ.has a → H a ≠ none) {vs : List V} {ds : List D} (r : DpAll X.K (hid φ H) vs ds) : Dp X.K (hid φ (upd H p (.lst vs))) (.ref p) (.list ds) := by
  refine .lst (SqL.of (hid_of (fun m => th p m hp) upd_same)) (dps_mono (fun b u e => ?_) r)
  obtain ⟨z1, z2⟩ := hid_some e
  exact hid_of z1 (same_new hp b u z2)
theorem dps_nil {H : Hp} {vs : List V} {ds : List D} (h : DpAll X.K H vs ds) : vs = [] ↔ ds = [] := by
  cases h <;> simp
theorem od_eq (hu : X.A.units + 64 < cLine) : OpD X (compareOp .Eq) dEq := opd_boo (op_eq.or (op_eqD hu)) fun φ H x y d e z Q hd he eg k => by
  unfold dEq at eg
  split at eg
  · rename_i i j
    cases eg; cases hd; cases he
    have q : decide (V.int i = V.int j) = decide (i = j) := by simp
    exact .inl ⟨rfl, by rw [q]; exact k _ H (Same.refl _) (.bl _)⟩
  · rename_i i j
    cases eg; cases hd; cases he
    have q : decide (V.str i = V.str j) = decide (i = j) := by simp
    exact .inl ⟨rfl, by rw [q]; exact k _ H (Same.refl _) (.bl _)⟩
  · split at eg
    · rename_i c
      cases eg
      exact .inr ⟨d, e, (dp_mono low hd).low (shaped_lay c.1), (dp_mono low he).low (shaped_lay c.2), c.1, c.2, k _ H (Same.refl _) (.bl _)⟩
    · cases eg
theorem od_ne (hu : X.A.units + 64 < cLine) : OpD X (compareOp .NotEq) dNe := opd_boo (op_ne.or (op_neD hu)) fun φ H x y d e z Q hd he eg k => by
  unfold dNe at eg
  split at eg
  · rename_i i j
    cases eg; cases hd; cases he
    have q : decide (V.int i = V.int j) = decide (i = j) := by simp
    exact .inl ⟨rfl, by rw [q]; exact k _ H (Same.refl _) (.bl _)⟩
  · rename_i i j
    cases eg; cases hd; cases he
    have q : decide (V.str i = V.str j) = decide (i = j) := by simp
    exact .inl ⟨rfl, by rw [q]; exact k _ H (Same.refl _) (.bl _)⟩
  · split at eg
    · rename_i c
      cases eg
      exact .inr ⟨d, e, (dp_mono low hd).low (shaped_lay c.1), (dp_mono low he).low (shaped_lay c.2), c.1, c.2, k _ H (Same.refl _) (.bl _)⟩
    · cases eg
theorem od_lt : OpD X (compareOp .Lt) dLt := opd_boo (op_lt.or op_lt_str) fun φ H x y d e z Q hd he eg k => by
  cases d <;> cases e <;> try (cases eg; done)
  · cases eg; cases hd; cases he
    exact .inl ⟨_, _, rfl, rfl, k _ H (Same.refl _) (.bl _)⟩
  · cases eg; cases hd; cases he
    exact .inr ⟨_, _, rfl, rfl, k _ H (Same.refl _) (.bl _)⟩
theorem ats_data {pins : List (Addr × Obj)} {σ : St} {H : Hp} {s : Shared} : ∀ {ks : List D} {vs : List V} {us : List Value} {as : List (Int ⊕ List Nat)}, DpAll X.K H vs ks → Vals vs us → atomsD ks = some as → Ats us as
  | [], _, _, _, h, r, e => by
    cases h
    cases r
    cases e
    exact .nil
  | k :: ks, _, _, as, h, r, e => by
    cases h with
    | cons h1 h2 =>
      cases r with
      | cons r1 r2 =>
        unfold atomsD at e
        split at e
        · rename_i a bs e1 e2
          cases e
          have ih := ats_data (pins := pins) (σ := σ) (s := s) h2 r2 e2
          cases k <;> try (cases e1; done)
          · cases e1
            cases h1
            obtain ⟨t, rfl⟩ := r1
            exact .int ih
          · cases e1
            cases h1
            obtain ⟨t, rfl⟩ := r1
            exact .str ih
        · cases e
section
open SeqAt
open AutoSeq1 (wpAny_loadPart')
theorem ats_step {ps qs : List Value} {as bs : List (Int ⊕ List Nat)} (k1 : Ats ps as) (k2 : Ats qs bs) (kc : cmpF as bs = true) {y x : Value} {rest : List (Value × Value)} (hz : (y, x) :: rest = List.zip ps qs) :
    ∃ ps' qs' as' bs' e, rest = List.zip ps' qs' ∧ Ats ps' as' ∧ Ats qs' bs' ∧ (∀ A s, SeqAt.EqAt A s y x e) ∧ (e = true → cmpF as' bs' = true ∧ PyProof.Rows.lexLt PyProof.Rows.itemOrd bs as = PyProof.Rows.lexLt PyProof.Rows.itemOrd bs' as') ∧
      (e = false → ∀ A s, Ob.RcOp .LtE A s y x (!PyProof.Rows.lexLt PyProof.Rows.itemOrd bs as)) ∧ decide (ps.length ≤ qs.length) = decide (ps'.length ≤ qs'.length) := by
  cases k1 with
  | nil => cases hz
  | @int n t ps as k1 =>
    cases k2 with
    | nil => cases hz
    | @int m u qs bs k2 =>
      cases hz
      refine ⟨ps, qs, as, bs, n == m, rfl, k1, k2, fun A s => SeqAt.EqAt.int_int _ _ _ _, fun e => ?_, fun e A s => ?_, by simp only [List.length_cons, Nat.add_le_add_iff_right]⟩
      · have q : n = m := by simpa using e
        subst q
        unfold cmpF at kc
        rw [if_pos rfl] at kc
        exact ⟨kc, PyProof.Rows.lex_self _ _ _⟩
      · have q : ¬ n = m := by simpa using e
        rw [PyProof.Rows.lex_diff (fun x => q (Sum.inl.inj x).symm)]
        have e : decide (n ≤ m) = !decide (m < n) := by
          by_cases z : n ≤ m
          · rw [decide_eq_true z, decide_eq_false (by omega)]; rfl
          · rw [decide_eq_false z, decide_eq_true (by omega)]; rfl
        have r := Ob.RcOp.le_int (A := A) (s := s) n m t u
        rw [e] at r
        exact r
    | str k2 => cases kc
  | @str p t ps as k1 =>
    cases k2 with
    | nil => cases hz
    | int k2 => cases kc
    | @str p2 u qs bs k2 =>
      cases hz
      refine ⟨ps, qs, as, bs, p == p2, rfl, k1, k2, fun A s => SeqAt.EqAt.str_str _ _ _ _, fun e => ?_, fun e A s => ?_, by simp only [List.length_cons, Nat.add_le_add_iff_right]⟩
      · have q : p = p2 := by simpa using e
        subst q
        unfold cmpF at kc
        rw [if_pos rfl] at kc
        exact ⟨kc, PyProof.Rows.lex_self _ _ _⟩
      · have q : ¬ p = p2 := by simpa using e
        have hne : p2.cps.toList ≠ p.cps.toList := fun z => q (by
          obtain ⟨a⟩ := p
          obtain ⟨b⟩ := p2
          rw [show a = b from (Array.toList_inj.mp z).symm])
        rw [PyProof.Rows.lex_diff (fun x => hne (Sum.inr.inj x))]
        exact fun _ _ _ _ h => PySem.P.le_str h
theorem ats_end {ps qs : List Value} {as bs : List (Int ⊕ List Nat)} (k1 : Ats ps as) (k2 : Ats qs bs) (hz : [] = List.zip ps qs) : (!PyProof.Rows.lexLt PyProof.Rows.itemOrd bs as) = decide (ps.length ≤ qs.length) := by
  cases k1 with
  | nil => cases k2 <;> rfl
  | int k1 => cases k2 with
    | nil => rfl
    | int k2 => cases hz
    | str k2 => cases hz
  | str k1 => cases k2 with
    | nil => rfl
    | int k2 => cases hz
    | str k2 => cases hz
/-- the walk of two tuples -/
theorem tup_leA (l b : Addr) (items items2 : Array Value) (n n2 : Nat) (dd dd2 : Option Addr) (sl sl2 : Array (Option Value)) (as bs : List (Int ⊕ List Nat)) :
    Meets (Builtin.«tuple.__le__» ⟨[.ref l, .ref b], []⟩)
      (fun A R s => s.heap.get? l = some { cls := .type "tuple", dict := dd, data := .seq items n, slots := sl } ∧ s.heap.get? b = some { cls := .type "tuple", dict := dd2, data := .seq items2 n2, slots := sl2 } ∧
        Ats items.toList as ∧ Ats items2.toList bs ∧ cmpF as bs = true ∧ R (.ok (.ret (.bool (!PyProof.Rows.lexLt PyProof.Rows.itemOrd bs as)))) s) :=
  .of_wp fun prog w A R s h => by
    obtain ⟨hp, g, d, tk, os⟩ := s
    obtain ⟨hl, hb, ha, ha2, hc, h⟩ := h
    have f2 := AutoSeq1.sub_tuple_tuple
    wp_walk using wpAny_loadPart' hl, wpAny_loadPart' hb, wpAny_forIn_list _ (fun rest b s' => b.1 = none ∧ s' = ⟨hp, g, d, tk, os⟩ ∧ ∃ ps qs as bs, rest = List.zip ps qs ∧ Ats ps as ∧ Ats qs bs ∧ cmpF as bs = true ∧
      decide (items.size ≤ items2.size) = decide (ps.length ≤ qs.length) ∧ R (.ok (.ret (.bool (!PyProof.Rows.lexLt PyProof.Rows.itemOrd bs as)))) ⟨hp, g, d, tk, os⟩) _
    case turn =>
      rintro ⟨y, x⟩ rest b s' ⟨hb', rfl, ps, qs, as, bs, hz, k1, k2, kc, kl, hR⟩
      obtain ⟨ps', qs', as', bs', e, j1, j2, j3, j4, j5, j6, j7⟩ := ats_step k1 k2 kc hz
      rw [j7] at kl
      obtain ⟨z, ez⟩ : ∃ z, z = !PyProof.Rows.lexLt PyProof.Rows.itemOrd bs as := ⟨_, rfl⟩
      rw [← ez] at hR j6
      refine wpAny_bind (j4 _ _ prog w _ _ ?_)
      cases e with
      | true =>
        obtain ⟨j8, j9⟩ := j5 rfl
        wp_walk
        exact ⟨rfl, rfl, ps', qs', as', bs', j1, j2, j3, j8, kl, by rw [← j9, ← ez]; exact hR⟩
      | false =>
        have hri := j6 rfl A.in1 ⟨hp, g, d, tk, os⟩ prog w
        wp_walk using hri
        exact ⟨_, rfl, hR⟩
    case fin =>
      rintro ⟨b1, b2⟩ s' ⟨hb', rfl, ps, qs, as, bs, hz, k1, k2, kc, kl, hR⟩
      simp only at hb'
      subst hb'
      rw [ats_end k1 k2 hz, ← kl] at hR
      wp_walk
      exact ⟨_, rfl, by simpa [Builtin.Tuple.tupleCompareSizes] using hR⟩
    case h =>
      exact ⟨rfl, rfl, items.toList, items2.toList, as, bs, rfl, ha, ha2, hc, by rw [Array.length_toList, Array.length_toList], h⟩
end
def rLeA (K : PySem.W.Frag) : R2 := fun x y H Q => ∃ xs ys as bs, Dp K H x (.tuple xs) ∧ Dp K H y (.tuple ys) ∧ atomsD xs = some as ∧ atomsD ys = some bs ∧ cmpF as bs = true ∧ Q (.bl (!PyProof.Rows.lexLt PyProof.Rows.itemOrd bs as)) H
theorem op_leA (hu : X.A.units < cLine) : OpR X (compareOp .LtE) (rLeA X.K) := by
  intro pins s σ H x y v u Q I rx ry ⟨xs, ys, as, bs, hd, he, e1, e2, c, q⟩
  cases hd with
  | tup a1 a2 =>
  cases he with
  | tup b1 b2 =>
  cases rx
  cases ry
  obtain ⟨its, r1, p1, _⟩ := I.tuple a1
  obtain ⟨its2, r2, p2, _⟩ := I.tuple b1
  have t1 := ats_data (pins := pins) (σ := σ) (s := s) a2 r1 e1
  have t2 := ats_data (pins := pins) (σ := σ) (s := s) b2 r2 e2
  obtain ⟨⟨cls, dd, data, sl⟩, ho, hc, n, hd⟩ := p1
  obtain ⟨⟨cls2, dd2, data2, sl2⟩, ho2, hc2, n2, hd2⟩ := p2
  simp only at hc hd hc2 hd2
  subst hc hd hc2 hd2
  exact richCompare_meets_room (op := .LtE) ⟨_, ho, rfl⟩ ⟨_, ho2, rfl⟩ F.slot_tuple_le F.entry_tuple_le (F.args_tuple_le_2 _ _) (tup_leA _ _ its.toArray its2.toArray n n2 dd dd2 sl sl2 as bs)
    ⟨ho, ho2, by simpa using t1, by simpa using t2, c, ⟨(fun x => nomatch x), ⟨.bl _, H, I, rfl, q⟩⟩⟩ hu
theorem od_le (hu : X.A.units < cLine) : OpD X (compareOp .LtE) dLe := opd_boo ((op_le.or op_le_str).or (op_leA hu)) fun φ H x y d e z Q hd he eg k => by
  cases d <;> cases e <;> try (cases eg; done)
  · cases eg; cases hd; cases he
    exact .inl (.inl ⟨_, _, rfl, rfl, k _ H (Same.refl _) (.bl _)⟩)
  · cases eg; cases hd; cases he
    exact .inl (.inr ⟨_, _, rfl, rfl, k _ H (Same.refl _) (.bl _)⟩)
  · rename_i xs ys
    have eg : leDs xs ys = some z := eg
    unfold leDs at eg
    split at eg
    · rename_i as bs e1 e2
      split at eg
      · rename_i c
        cases eg
        exact .inr ⟨xs, ys, as, bs, dp_mono low hd, dp_mono low he, e1, e2, c, k _ H (Same.refl _) (.bl _)⟩
      · cases eg
    · cases eg
theorem od_gt : OpD X (compareOp .Gt) dGt := opd_boo (op_gt.or op_gt_str) fun φ H x y d e z Q hd he eg k => by
  cases d <;> cases e <;> try (cases eg; done)
  · cases eg; cases hd; cases he
    exact .inl ⟨_, _, rfl, rfl, k _ H (Same.refl _) (.bl _)⟩
  · cases eg; cases hd; cases he
    exact .inr ⟨_, _, rfl, rfl, k _ H (Same.refl _) (.bl _)⟩
theorem od_ge : OpD X (compareOp .GtE) dGe := opd_boo (op_ge.or op_ge_str) fun φ H x y d e z Q hd he eg k => by
  cases d <;> cases e <;> try (cases eg; done)
  · cases eg; cases hd; cases he
    exact .inl ⟨_, _, rfl, rfl, k _ H (Same.refl _) (.bl _)⟩
  · cases eg; cases hd; cases he
    exact .inr ⟨_, _, rfl, rfl, k _ H (Same.refl _) (.bl _)⟩
theorem dp_is {H : Hp} {v : V} {d : D} (h : Dp X.K H v d) : decide (v = .non) = isNo d := by
  cases h <;> rfl
theorem od_is : OpD X (compareOp .Is) dIs := opd_boo (op_isN.or op_isBl) fun φ H x y d e z Q hd he eg k => by
  cases e with
  | none =>
    have hz : z = PyData.bool (isNo d) := by cases d <;> (cases eg; rfl)
    subst hz
    cases he
    refine .inl ⟨rfl, k _ H (Same.refl _) ?_⟩
    rw [dp_is hd]
    exact .bl _
  | bool b =>
    cases d <;> try (cases eg; done)
    cases eg
    cases hd
    cases he
    exact .inr ⟨_, _, rfl, rfl, k _ H (Same.refl _) (.bl _)⟩
  | _ => cases d <;> cases eg
theorem od_isnot : OpD X (compareOp .IsNot) dIsNot := opd_boo (op_notN.or op_notBl) fun φ H x y d e z Q hd he eg k => by
  cases e with
  | none =>
    have hz : z = PyData.bool (!isNo d) := by cases d <;> (cases eg; rfl)
    subst hz
    cases he
    refine .inl ⟨rfl, k _ H (Same.refl _) ?_⟩
    rw [dp_is hd]
    exact .bl _
  | bool b =>
    cases d <;> try (cases eg; done)
    cases eg
    cases hd
    cases he
    exact .inr ⟨_, _, rfl, rfl, k _ H (Same.refl _) (.bl _)⟩
  | _ => cases d <;> cases eg
theorem sign_of {z : Str} (h : z.cps.size = 1) : z = ⟨#[z.cps.getD 0 0]⟩ := by
  obtain ⟨c⟩ := z
  obtain ⟨l⟩ := c
  match l, h with
  | [c], _ => rfl
def rInTD (K : PySem.W.Frag) : R2 := fun x y H Q => ∃ d ds, L2.Dp K H x d ∧ L2.Dp K H y (.tuple ds) ∧ SeqAt.shaped d = true ∧ SeqAt.shaped (.tuple ds) = true ∧ Q (.bl (ds.any fun z => PyData.eqv z d)) H
def rNotInTD (K : PySem.W.Frag) : R2 := fun x y H Q => ∃ d ds, L2.Dp K H x d ∧ L2.Dp K H y (.tuple ds) ∧ SeqAt.shaped d = true ∧ SeqAt.shaped (.tuple ds) = true ∧ Q (.bl (!ds.any fun z => PyData.eqv z d)) H
theorem op_inTD (hu : X.A.units + 65 < cLine) : OpR X (compareOp .In) (rInTD X.K) := by
  intro pins s σ H x y v u Q I rx ry ⟨d, ds, hd, he, sd, se, q⟩
  obtain ⟨as, r1⟩ := Dp.reads I d x v hd rx
  obtain ⟨bs, r2⟩ := Dp.reads I (.tuple ds) y u he ry
  exact SeqAt.in_tuple_reads r2 r1 (SeqAt.canLay_of_shaped se) (SeqAt.canLay_of_shaped sd) (PyProof.Rows.room_in_shaped sd hu) ⟨.bl _, H, I, rfl, q⟩
theorem op_notInTD (hu : X.A.units + 65 < cLine) : OpR X (compareOp .NotIn) (rNotInTD X.K) := by
  intro pins s σ H x y v u Q I rx ry ⟨d, ds, hd, he, sd, se, q⟩
  obtain ⟨as, r1⟩ := Dp.reads I d x v hd rx
  obtain ⟨bs, r2⟩ := Dp.reads I (.tuple ds) y u he ry
  exact SeqAt.notIn_tuple_reads r2 r1 (SeqAt.canLay_of_shaped se) (SeqAt.canLay_of_shaped sd) (PyProof.Rows.room_in_shaped sd hu) ⟨.bl _, H, I, rfl, q⟩
theorem od_in (hu : X.A.units + 65 < cLine) : OpD X (compareOp .In) dIn := opd_boo (op_in_sign.or ((op_inD hu).or (op_inTD hu))) fun φ H x y d e z Q hd he eg k => by
  cases e with
  | str t =>
    cases d <;> try (cases eg; done)
    rename_i w
    have eg : (if w.cps.size = 1 then some (PyData.bool (decide (w.cps.getD 0 0 ∈ t.cps.toList))) else none) = some z := eg
    split at eg
    · rename_i c
      cases eg; cases hd; cases he
      exact .inl ⟨_, t, by rw [← sign_of c], rfl, k _ H (Same.refl _) (.bl _)⟩
    · cases eg
  | list ds =>
    have eg : (if SeqAt.shaped d = true ∧ SeqAt.shaped (.list ds) = true then some (PyData.bool (ds.any fun z => PyData.eqv z d)) else none) = some z := by cases d <;> exact eg
    split at eg
    · rename_i c
      cases eg
      exact .inr (.inl ⟨d, ds, (dp_mono low hd).low (shaped_lay c.1), (dp_mono low he).low (shaped_lay c.2), c.1, c.2, k _ H (Same.refl _) (.bl _)⟩)
    · cases eg
  | tuple ds =>
    have eg : (if SeqAt.shaped d = true ∧ SeqAt.shaped (.tuple ds) = true then some (PyData.bool (ds.any fun z => PyData.eqv z d)) else none) = some z := by cases d <;> exact eg
    split at eg
    · rename_i c
      cases eg
      exact .inr (.inr ⟨d, ds, (dp_mono low hd).low (shaped_lay c.1), (dp_mono low he).low (shaped_lay c.2), c.1, c.2, k _ H (Same.refl _) (.bl _)⟩)
    · cases eg
  | _ => cases d <;> cases eg
theorem od_notin (hu : X.A.units + 65 < cLine) : OpD X (compareOp .NotIn) dNotIn := opd_boo (op_notIn_sign.or ((op_notInD hu).or (op_notInTD hu))) fun φ H x y d e z Q hd he eg k => by
  cases e with
  | str t =>
    cases d <;> try (cases eg; done)
    rename_i w
    have eg : (if w.cps.size = 1 then some (PyData.bool (!decide (w.cps.getD 0 0 ∈ t.cps.toList))) else none) = some z := eg
    split at eg
    · rename_i c
      cases eg; cases hd; cases he
      exact .inl ⟨_, t, by rw [← sign_of c], rfl, k _ H (Same.refl _) (.bl _)⟩
    · cases eg
  | list ds =>
    have eg : (if SeqAt.shaped d = true ∧ SeqAt.shaped (.list ds) = true then some (PyData.bool (!ds.any fun z => PyData.eqv z d)) else none) = some z := by cases d <;> exact eg
    split at eg
    · rename_i c
      cases eg
      exact .inr (.inl ⟨d, ds, (dp_mono low hd).low (shaped_lay c.1), (dp_mono low he).low (shaped_lay c.2), c.1, c.2, k _ H (Same.refl _) (.bl _)⟩)
    · cases eg
  | tuple ds =>
    have eg : (if SeqAt.shaped d = true ∧ SeqAt.shaped (.tuple ds) = true then some (PyData.bool (!ds.any fun z => PyData.eqv z d)) else none) = some z := by cases d <;> exact eg
    split at eg
    · rename_i c
      cases eg
      exact .inr (.inr ⟨d, ds, (dp_mono low hd).low (shaped_lay c.1), (dp_mono low he).low (shaped_lay c.2), c.1, c.2, k _ H (Same.refl _) (.bl _)⟩)
    · cases eg
  | _ => cases d <;> cases eg
end
end Ft
namespace Ft
variable [Wd]
open PySem PySem.Spec L2 PyProof.Rows
section
variable {prog : Program} {w : World} {A : Around} {E : Value → Shared → Prop} {s : Shared}
theorem list_addAny (l b : Addr) (items items2 : Array Value) (n n2 : Nat) (dd dd2 : Option Addr) (sl sl2 : Array (Option Value)) (hc0 : items.size + items2.size ≤ sizeLine) :
    Meets (Builtin.«list.__add__» ⟨[.ref l, .ref b], []⟩) (fun _ R s => s.heap.get? l = some { cls := .type "list", dict := dd, data := .seq items n, slots := sl } ∧ s.heap.get? b = some { cls := .type "list", dict := dd2, data := .seq items2 n2, slots := sl2 } ∧
      R (.ok (.ret (Value.ref s.heap.objs.size))) { s with heap := s.heap.push { cls := Value.type "list", data := Data.seq (items ++ items2) }, toks := s.toks }) :=
  .of_wp fun prog w A R s h => by obtain ⟨hp, g, d, tk, os⟩ := s; obtain ⟨hl, hb, h⟩ := h; have f1 := AutoSeq1.idx_int; have f2 := AutoSeq1.sub_tuple_tuple; have f3 := AutoSeq1.sub_list_list; have f4 := AutoSeq1.sub_tuple_list; have f5 := AutoSeq1.sub_list_tuple; wp_walk using wpAny_loadPart' hl, wpAny_loadPart' hb; exact ⟨_, rfl, h⟩
end
section
variable {X : Cx}
def rCatL (K : PySem.W.Frag) : R2 := fun x y H Q => ∃ l b xs zs, x = .ref l ∧ y = .ref b ∧ SqL K H l xs ∧ SqL K H b zs ∧ xs.length + zs.length ≤ sizeLine ∧ ∀ p, H p = none → Q (.ref p) (upd H p (.lst (xs ++ zs)))
theorem op_catL : OpR X (binaryOp .Add) (rCatL X.K) := by
  intro pins s σ H x y v u Q I rx ry h
  obtain ⟨l, b, xs, zs, rfl, rfl, hH, hB, hz, q⟩ := h
  cases rx
  cases ry
  obtain ⟨its, r, ⟨⟨cls, dd, data, sl⟩, n, e, c1, c2, c3⟩, hl⟩ := I.list hH
  obtain ⟨its2, r2, ⟨⟨cls2, dd2, data2, sl2⟩, n2, e2, c4, c5, c6⟩, hl2⟩ := I.list hB
  simp only at c1 c2 c3 c4 c5 c6
  subst c1 c2 c3 c4 c5 c6
  have h1 := r.length
  have h2 := r2.length
  refine concat_meets ⟨_, e, rfl⟩ ⟨_, e2, rfl⟩ noFill_list_add seq_list_add PySem.F.slot_list_add PySem.F.entry_list_add (PySem.F.args_list_add_2 _ _) (list_addAny l b its.toArray its2.toArray n n2 _ _ sl sl2 (by rw [List.size_toArray, List.size_toArray]; omega)) ⟨e, e2, ?_⟩
  have ea : its.toArray ++ its2.toArray = (its ++ its2).toArray := by simp
  rw [ea]
  exact ⟨.ref _, _, I.lnew (t' := s.toks) (r.append r2) (by rw [List.length_append]; omega), rfl, q _ I.fresh⟩
theorem opd_th {f : Value → Value → Sem Value} {g : D → D → Option D} {r : R2} (ho : OpR X f r) (hg : ∀ φ H x y d e z (Q : VK), Dp X.K (hid φ H) x d → Dp X.K (hid φ H) y e → g d e = some z → (∀ a, φ.has a → H a ≠ none) → (∀ v H', Same H H' → Dp X.K (hid φ H') v z → Q v H') → r x y H Q) : OpD X f g := fun φ pins s σ H x y v u Q I rx ry ⟨d, e, z, hd, he, eg, th, k⟩ =>
  ho pins s σ H x y v u Q I rx ry (hg φ H x y d e z Q hd he eg th k)
theorem od_add : OpD X (binaryOp .Add) dAdd := opd_th (((op_add.or op_add_str).or op_catA).or op_catL) fun φ H x y d e z Q hd he eg th k => by
  cases d <;> cases e <;> try (cases eg; done)
  · cases eg; cases hd; cases he
    exact .inl (.inl (.inl ⟨_, _, rfl, rfl, k _ H (Same.refl _) (.int _)⟩))
  · rename_i a b
    have eg : (if a.length + b.length ≤ sizeLine then some (PyData.str (a ++ b)) else none) = some z := eg
    split at eg
    · cases eg; cases hd; cases he
      exact .inl (.inl (.inr ⟨_, _, rfl, rfl, by assumption, k _ H (Same.refl _) (.str _)⟩))
    · cases eg
  · rename_i a b
    have eg : (if a.length + b.length ≤ sizeLine then some (PyData.list (a ++ b)) else none) = some z := eg
    split at eg
    · rename_i hz
      cases eg
      cases hd with
      | @lst p vs _ h1 h2 =>
        cases he with
        | @lst q us _ h3 h4 => exact .inr ⟨_, _, vs, us, rfl, rfl, seqL_mono low h1, seqL_mono low h3, by rw [dps_len h2, dps_len h4]; exact hz, fun p hp => k _ _ (same_new hp) (new_lst hp th (dps_app h2 h4))⟩
    · cases eg
  · rename_i a b
    have eg : (if a.length + b.length ≤ sizeLine then some (PyData.tuple (a ++ b)) else none) = some z := eg
    split at eg
    · rename_i hz
      cases eg
      cases hd with
      | @tup p vs _ h1 h2 =>
        cases he with
        | @tup q us _ h3 h4 =>
          refine .inl (.inr ⟨_, _, vs, us, rfl, rfl, seqT_mono low h1, seqT_mono low h3, by rw [dps_len h2, dps_len h4]; exact hz, fun e => ?_, fun e1 e2 => ?_, fun _ _ p hp => ?_⟩)
          · cases (dps_nil h2).mp e
            exact k _ H (Same.refl _) (.tup h3 h4)
          · cases (dps_nil h4).mp e2
            rw [List.append_nil] at k
            exact k _ H (Same.refl _) (.tup h1 h2)
          · exact k _ _ (same_new hp) (new_tup hp th (dps_app h2 h4))
    · cases eg
theorem dps_rep {H : Hp} {vs : List V} {ds : List D} (h : DpAll X.K H vs ds) : ∀ n : Nat, DpAll X.K H (List.replicate n vs).flatten (repD ds n)
  | 0 => .nil
  | n + 1 => by
    unfold repD
    rw [List.replicate_succ, List.replicate_succ, List.flatten_cons, List.flatten_cons]
    exact dps_app h (dps_rep h n)
/-- a product: ints, a tuple some times -/
def dMul' : D → D → Option D
  | .int i, .int j => if mulOk i j = true then some (.int (i * j)) else none
  | .tuple xs, .int k => if xs.length ≤ 1000 ∧ xs ≠ [] ∧ 2 ≤ k ∧ k ≤ 1000 then some (.tuple (repD xs k.toNat)) else none
  | .list xs, .int k => if -(2 ^ 63) ≤ k ∧ k < 2 ^ 63 ∧ xs.length * k.toNat ≤ sizeLine then some (.list (repD xs k.toNat)) else none
  | _, _ => none
theorem rmul_listAny (a : Int) (t : Tok) (l : Addr) (items : Array Value) (n : Nat) (dd : Option Addr) (sl : Array (Option Value)) :
    Meets (Builtin.«int.__rmul__» ⟨[.int a t, .ref l], []⟩) (fun _ R s => s.heap.get? l = some { cls := .type "list", dict := dd, data := .seq items n, slots := sl } ∧ R (.ok (.ret Value.notImplemented)) s) :=
  .of_wp fun prog w A R s h => by
    obtain ⟨hp, g, d, tk, os⟩ := s
    obtain ⟨hl, h⟩ := h
    wp_walk using wpAny_loadPart' hl
    exact ⟨_, rfl, h⟩
theorem mul_listAny (l : Addr) (items : Array Value) (n : Nat) (dd : Option Addr) (sl : Array (Option Value)) (x : Int) (u : Tok) (hc0 : ¬(!Builtin.List.listFitsIndex x) = true) (hc1 : ¬items.size * x.toNat > (2 ^ 63 - 1) / 8) (hc2 : ¬Builtin.List.listTooLong (items.size * x.toNat) = true) :
    Meets (Builtin.«list.__mul__» ⟨[.ref l, .int x u], []⟩) (fun _ R s => s.heap.get? l = some { cls := .type "list", dict := dd, data := .seq items n, slots := sl } ∧
      R (.ok (.ret (Value.ref s.heap.objs.size))) { s with heap := s.heap.push { cls := Value.type "list", data := Data.seq (List.foldl (fun x1 x2 => x1 ++ x2) #[] (List.replicate (if items.isEmpty = true then 0 else x.toNat) items)) }, toks := s.toks }) :=
  .of_wp fun prog w A R s h => by
    obtain ⟨hp, g, d, tk, os⟩ := s
    obtain ⟨hl, h⟩ := h
    have hsz := AutoListH.joined_fits hc2
    have f1 := AutoSeq1.idx_int
    wp_walk using wpAny_loadPart' hl
    refine wpAny_ite_false (decide_eq_false (Nat.not_lt.mpr hsz)) ?_
    wp_walk using wpAny_loadPart' hl
    exact ⟨_, rfl, h⟩
/-- a list some times -/
theorem op_repL : OpR X (binaryOp .Mult) (fun x y H Q => ∃ l k xs, x = .ref l ∧ y = .int k ∧ SqL X.K H l xs ∧ -(2 ^ 63) ≤ k ∧ k < 2 ^ 63 ∧ xs.length * k.toNat ≤ sizeLine ∧ ∀ p, H p = none → Q (.ref p) (upd H p (.lst (List.replicate k.toNat xs).flatten))) := by
  intro pins s σ H x y v u Q I rx ry h
  obtain ⟨l, k, xs, rfl, rfl, hH, h1, h2, hz, q⟩ := h
  cases rx
  obtain ⟨t, rfl⟩ := ry
  obtain ⟨its, r, ⟨⟨cls, dd, data, sls⟩, n, e, hc, hdn, hdt⟩, hlen0⟩ := I.list hH
  simp only at hc hdt hdn
  subst hc hdt hdn
  have hl : xs.length = its.length := r.length
  have hlen : its.toArray.size * k.toNat ≤ sizeLine := by rw [List.size_toArray, ← hl]; exact hz
  have hcap : ¬ its.toArray.size * k.toNat > (2 ^ 63 - 1) / 8 := by
    have : (sizeLine : Nat) ≤ (2 ^ 63 - 1) / 8 := by decide
    omega
  have hfit : ¬ (!Builtin.List.listFitsIndex k) = true := by
    rw [fitsIndex_both h1 h2]
    exact Bool.false_ne_true
  have hlong : ¬ Builtin.List.listTooLong (its.toArray.size * k.toNat) = true := by
    rw [notLongL hlen]
    exact Bool.false_ne_true
  have hnew : List.foldl (fun x1 x2 => x1 ++ x2) #[] (List.replicate (if its.toArray.isEmpty = true then 0 else k.toNat) its.toArray) = (List.replicate k.toNat its).flatten.toArray := by
    have f0 : ∀ m : Nat, List.foldl (fun x1 x2 => x1 ++ x2) #[] (List.replicate m its.toArray) = (List.replicate m its).flatten.toArray := fun m => by
      have := foldl_rep its m []
      rw [List.nil_append] at this
      exact this
    rw [f0]
    cases its with
    | nil => simp
    | cons a r' => rw [if_neg (by simp)]
  refine wpAny_binaryOp_repeat_ref (T := "list") (U := "int") (by decide) ⟨_, e, rfl⟩ (fun s' => typeIs_int s' k t) noFill_list_mul PySem.F.fills_int_mul PySem.F.slot_int_rmul repeat_list PySem.F.slot_int_index.lookup
    (call_meets PySem.F.slot_int_rmul (typeIs_int s k t) PySem.F.entry_int_rmul (PySem.F.args_int_rmul_2 _ _) (rmul_listAny k t l its.toArray n _ sls)
      ⟨e, rfl, ⟨_, e, rfl⟩, call_meets PySem.F.slot_list_mul ⟨_, e, rfl⟩ PySem.F.entry_list_mul (PySem.F.args_list_mul_2 _ _) (mul_listAny l its.toArray n _ sls k t hfit hcap hlong) ⟨e, ?_⟩⟩)
  rw [hnew]
  exact ⟨.ref _, _, I.lnew (t' := s.toks) (r.rep k.toNat) (by rw [PyProof.Rows.lm_len_rep_flat, Nat.mul_comm]; exact hz), rfl, q _ I.fresh⟩
theorem od_mul : OpD X (binaryOp .Mult) dMul' := opd_th ((op_mulX.or op_repT).or op_repL) fun φ H x y d e z Q hd he eg th k => by
  cases d <;> cases e <;> try (cases eg; done)
  · rename_i i j
    have eg : (if mulOk i j = true then some (PyData.int (i * j)) else none) = some z := eg
    split at eg
    · rename_i c
      cases eg; cases hd; cases he
      exact .inl (.inl ⟨_, _, rfl, rfl, by unfold mulOk at c; have c := of_decide_eq_true c; exact c, k _ H (Same.refl _) (.int _)⟩)
    · cases eg
  · rename_i xs j
    have eg : (if -(2 ^ 63) ≤ j ∧ j < 2 ^ 63 ∧ xs.length * j.toNat ≤ sizeLine then some (PyData.list (repD xs j.toNat)) else none) = some z := eg
    split at eg
    · rename_i c
      cases eg; cases he
      cases hd with
      | @lst p vs _ h1 h2 => exact .inr ⟨_, _, vs, rfl, rfl, seqL_mono low h1, c.1, c.2.1, by rw [dps_len h2]; exact c.2.2, fun p hp => k _ _ (same_new hp) (new_lst hp th (dps_rep h2 _))⟩
    · cases eg
  · rename_i xs j
    have eg : (if xs.length ≤ 1000 ∧ xs ≠ [] ∧ 2 ≤ j ∧ j ≤ 1000 then some (PyData.tuple (repD xs j.toNat)) else none) = some z := eg
    split at eg
    · rename_i c
      cases eg; cases he
      cases hd with
      | @tup p vs _ h1 h2 => exact .inl (.inr ⟨_, _, vs, rfl, rfl, seqT_mono low h1, fun e => c.2.1 ((dps_nil h2).mp e), c.2.2.1, c.2.2.2, by rw [dps_len h2]; exact c.1, fun p hp => k _ _ (same_new hp) (new_tup hp th (dps_rep h2 _))⟩)
    · cases eg
def iAdd : D → D → Option D
  | .int i, .int j => some (.int (i + j))
  | .str x, .str y => if x.length + y.length ≤ sizeLine then some (.str (x ++ y)) else none
  | _, _ => none
theorem iop_add' : OpD X (inplaceOp .Add) iAdd := opd_th (iop_add.or iop_add_str) fun φ H x y d e z Q hd he eg th k => by
  cases d <;> cases e <;> try (cases eg; done)
  · cases eg; cases hd; cases he
    exact .inl ⟨_, _, rfl, rfl, k _ H (Same.refl _) (.int _)⟩
  · rename_i a b
    have eg : (if a.length + b.length ≤ sizeLine then some (PyData.str (a ++ b)) else none) = some z := eg
    split at eg
    · cases eg; cases hd; cases he
      exact .inr ⟨_, _, rfl, rfl, by assumption, k _ H (Same.refl _) (.str _)⟩
    · cases eg
theorem iop_sub' : OpD X (inplaceOp .Sub) dSub' := opd_th iop_sub fun φ H x y d e z Q hd he eg th k => by
  cases d <;> cases e <;> try (cases eg; done)
  cases eg; cases hd; cases he
  exact ⟨_, _, rfl, rfl, k _ H (Same.refl _) (.int _)⟩
theorem cd_th {f : Value} {g : List D → Option D} {r : List V → Hp → VK → Prop} (ho : CallR X f r) (hg : ∀ φ H xs ds z (Q : VK), DpAll X.K (hid φ H) xs ds → g ds = some z → (∀ a, φ.has a → H a ≠ none) → (∀ v H', Same H H' → Dp X.K (hid φ H') v z → Q v H') → r xs H Q) : CallD X f g := fun φ pins s σ H xs us Q I r ⟨ds, z, hd, eg, th, k⟩ =>
  ho pins s σ H xs us Q I r (hg φ H xs ds z Q hd eg th k)
theorem dps1 {H : Hp} {vs : List V} {d : D} (h : DpAll X.K H vs [d]) : ∃ v, vs = [v] ∧ Dp X.K H v d := by
  cases h with
  | cons h1 h2 => cases h2; exact ⟨_, rfl, h1⟩
theorem dps2 {H : Hp} {vs : List V} {d e : D} (h : DpAll X.K H vs [d, e]) : ∃ v u, vs = [v, u] ∧ Dp X.K H v d ∧ Dp X.K H u e := by
  cases h with
  | cons h1 h2 =>
    obtain ⟨u, rfl, h3⟩ := dps1 h2
    exact ⟨_, _, rfl, h1, h3⟩
def cAbs : List D → Option D
  | [.int i] => some (.int (i.natAbs : Int))
  | _ => none
theorem cd_abs : CallD X (.builtin "abs") cAbs := cd_th call_abs fun φ H xs ds z Q hd eg th k => by
  unfold cAbs at eg
  split at eg
  · rename_i i
    cases eg
    obtain ⟨v, rfl, h⟩ := dps1 hd
    cases h
    refine ⟨i, rfl, ?_⟩
    have : (if i < 0 then -i else i) = (i.natAbs : Int) := by split <;> omega
    rw [this]
    exact k _ H (Same.refl _) (.int _)
  · cases eg
def cInt : List D → Option D
  | [.int i] => some (.int i)
  | [.bool k] => some (.int (if k then 1 else 0))
  | _ => none
theorem cd_int : CallD X (.type "int") cInt := cd_th call_int1 fun φ H xs ds z Q hd eg th k => by
  unfold cInt at eg
  split at eg
  · cases eg
    obtain ⟨v, rfl, h⟩ := dps1 hd
    cases h
    exact .inl ⟨_, rfl, k _ H (Same.refl _) (.int _)⟩
  · cases eg
    obtain ⟨v, rfl, h⟩ := dps1 hd
    cases h
    exact .inr ⟨_, rfl, k _ H (Same.refl _) (.int _)⟩
  · cases eg
def cStr : List D → Option D
  | [.int i] => if i.natAbs.log2 < 1920 then some (.str (Str.ofString (toString i))) else none
  | _ => none
theorem cd_str : CallD X (.type "str") cStr := cd_th call_str_int fun φ H xs ds z Q hd eg th k => by
  unfold cStr at eg
  split at eg
  · split at eg
    · rename_i c
      cases eg
      obtain ⟨v, rfl, h⟩ := dps1 hd
      cases h
      exact ⟨_, rfl, c, k _ H (Same.refl _) (.str _)⟩
    · cases eg
  · cases eg
def boolsOf : List D → Option (List Bool)
  | [] => some []
  | .bool b :: r => (boolsOf r).map (b :: ·)
  | _ => none
def intsOf : List D → Option (List Int)
  | [] => some []
  | .int b :: r => (intsOf r).map (b :: ·)
  | _ => none
theorem dps_bools {H : Hp} : ∀ {ds : List D} {vs : List V} {bs : List Bool}, DpAll X.K H vs ds → boolsOf ds = some bs → vs = bs.map V.bl
  | [], _, _, h, e => by cases h; cases e; rfl
  | .bool b :: r, _, bs, h, e => by
    cases h with
    | cons h1 h2 =>
      cases h1
      unfold boolsOf at e
      cases q : boolsOf r with
      | none => rw [q] at e; cases e
      | some cs =>
        rw [q] at e
        cases e
        rw [dps_bools h2 q]
        rfl
theorem dps_ints {H : Hp} : ∀ {ds : List D} {vs : List V} {bs : List Int}, DpAll X.K H vs ds → intsOf ds = some bs → vs = bs.map V.int
  | [], _, _, h, e => by cases h; cases e; rfl
  | .int b :: r, _, bs, h, e => by
    cases h with
    | cons h1 h2 =>
      cases h1
      unfold intsOf at e
      cases q : intsOf r with
      | none => rw [q] at e; cases e
      | some cs =>
        rw [q] at e
        cases e
        rw [dps_ints h2 q]
        rfl
omit [Wd] in
@[simp] theorem boolsOf_map (bs : List Bool) : boolsOf (bs.map PyData.bool) = some bs := by
  induction bs with
  | nil => rfl
  | cons b r ih => simp [boolsOf, ih]
omit [Wd] in
@[simp] theorem intsOf_map (bs : List Int) : intsOf (bs.map PyData.int) = some bs := by
  induction bs with
  | nil => rfl
  | cons b r ih => simp [intsOf, ih]
def maxI : List Int → Option Int
  | [] => none
  | i :: r => some (r.foldl max i)
def minI : List Int → Option Int
  | [] => none
  | i :: r => some (r.foldl min i)
theorem max_fold : ∀ (r : List Int) (i : Int), (r.foldl max i = i ∨ r.foldl max i ∈ r) ∧ i ≤ r.foldl max i ∧ ∀ y ∈ r, y ≤ r.foldl max i
  | [], i => ⟨.inl rfl, Int.le_refl _, fun y h => by cases h⟩
  | a :: r, i => by
    obtain ⟨h1, h2, h3⟩ := max_fold r (max i a)
    show (r.foldl max (max i a) = i ∨ r.foldl max (max i a) ∈ a :: r) ∧ i ≤ r.foldl max (max i a) ∧ ∀ y ∈ a :: r, y ≤ r.foldl max (max i a)
    refine ⟨?_, by omega, fun y h => ?_⟩
    · rcases h1 with h1 | h1
      · rw [h1]
        rcases Int.le_total i a with h | h
        · exact .inr (by rw [Int.max_eq_right h]; exact .head _)
        · exact .inl (Int.max_eq_left h)
      · exact .inr (.tail _ h1)
    · rcases List.mem_cons.mp h with h | h
      · subst h; omega
      · exact h3 y h
theorem min_fold : ∀ (r : List Int) (i : Int), (r.foldl min i = i ∨ r.foldl min i ∈ r) ∧ r.foldl min i ≤ i ∧ ∀ y ∈ r, r.foldl min i ≤ y
  | [], i => ⟨.inl rfl, Int.le_refl _, fun y h => by cases h⟩
  | a :: r, i => by
    obtain ⟨h1, h2, h3⟩ := min_fold r (min i a)
    show (r.foldl min (min i a) = i ∨ r.foldl min (min i a) ∈ a :: r) ∧ r.foldl min (min i a) ≤ i ∧ ∀ y ∈ a :: r, r.foldl min (min i a) ≤ y
    refine ⟨?_, by omega, fun y h => ?_⟩
    · rcases h1 with h1 | h1
      · rw [h1]
        rcases Int.le_total i a with h | h
        · exact .inl (Int.min_eq_left h)
        · exact .inr (by rw [Int.min_eq_right h]; exact .head _)
      · exact .inr (.tail _ h1)
    · rcases List.mem_cons.mp h with h | h
      · subst h; omega
      · exact h3 y h
def cMax : List D → Option D
  | [.int i, .int j] => some (.int (max i j))
  | [.list ds] => (intsOf ds).bind fun bs => (maxI bs).map .int
  | _ => none
def cMin : List D → Option D
  | [.int i, .int j] => some (.int (min i j))
  | [.list ds] => (intsOf ds).bind fun bs => (minI bs).map .int
  | _ => none
theorem cd_max (hc : X.calm = true) : CallD X (.builtin "max") cMax := cd_th ((call_max2 hc).or (cr_max hc)) fun φ H xs ds z Q hd eg th k => by
  unfold cMax at eg
  split at eg
  · rename_i i j
    cases eg
    obtain ⟨v, u, rfl, h, h'⟩ := dps2 hd
    cases h; cases h'
    refine .inl ⟨i, j, rfl, ?_⟩
    have : (if j > i then j else i) = max i j := by split <;> omega
    rw [this]
    exact k _ H (Same.refl _) (.int _)
  · rename_i es
    obtain ⟨bs, e1, e2⟩ := Option.bind_eq_some_iff.mp eg
    obtain ⟨m, e3, e4⟩ := Option.map_eq_some_iff.mp e2
    subst e4
    obtain ⟨v, rfl, h⟩ := dps1 hd
    cases h with
    | lst h1 h2 =>
      have e := dps_ints h2 e1
      subst e
      cases bs with
      | nil => cases e3
      | cons i r =>
        cases e3
        obtain ⟨f1, f2, f3⟩ := max_fold r i
        refine .inr ⟨_, i :: r, rfl, seqL_mono low h1, Nat.succ_pos _, fun m hm hy => ?_⟩
        have : m = r.foldl max i := by
          have g1 : r.foldl max i ≤ m := by
            rcases f1 with f1 | f1
            · rw [f1]; exact hy _ (.head _)
            · exact hy _ (.tail _ f1)
          have g2 : m ≤ r.foldl max i := by
            rcases List.mem_cons.mp hm with h | h
            · rw [h]; exact f2
            · exact f3 _ h
          omega
        rw [this]
        exact k _ H (Same.refl _) (.int _)
  · cases eg
theorem cd_min (hc : X.calm = true) : CallD X (.builtin "min") cMin := cd_th ((call_min2 hc).or (cr_min hc)) fun φ H xs ds z Q hd eg th k => by
  unfold cMin at eg
  split at eg
  · rename_i i j
    cases eg
    obtain ⟨v, u, rfl, h, h'⟩ := dps2 hd
    cases h; cases h'
    refine .inl ⟨i, j, rfl, ?_⟩
    have : (if j < i then j else i) = min i j := by split <;> omega
    rw [this]
    exact k _ H (Same.refl _) (.int _)
  · rename_i es
    obtain ⟨bs, e1, e2⟩ := Option.bind_eq_some_iff.mp eg
    obtain ⟨m, e3, e4⟩ := Option.map_eq_some_iff.mp e2
    subst e4
    obtain ⟨v, rfl, h⟩ := dps1 hd
    cases h with
    | lst h1 h2 =>
      have e := dps_ints h2 e1
      subst e
      cases bs with
      | nil => cases e3
      | cons i r =>
        cases e3
        obtain ⟨f1, f2, f3⟩ := min_fold r i
        refine .inr ⟨_, i :: r, rfl, seqL_mono low h1, Nat.succ_pos _, fun m hm hy => ?_⟩
        have : m = r.foldl min i := by
          have g1 : m ≤ r.foldl min i := by
            rcases f1 with f1 | f1
            · rw [f1]; exact hy _ (.head _)
            · exact hy _ (.tail _ f1)
          have g2 : r.foldl min i ≤ m := by
            rcases List.mem_cons.mp hm with h | h
            · rw [h]; exact f2
            · exact f3 _ h
          omega
        rw [this]
        exact k _ H (Same.refl _) (.int _)
  · cases eg
def cAny : List D → Option D
  | [.list ds] => (boolsOf ds).map fun bs => .bool (bs.any id)
  | _ => none
def cAll : List D → Option D
  | [.list ds] => (boolsOf ds).map fun bs => .bool (bs.all id)
  | _ => none
def cSum : List D → Option D
  | [.list ds] => (intsOf ds).map fun bs => .int bs.sum
  | _ => none
theorem cd_any (hc : X.calm = true) : CallD X (.builtin "any") cAny := cd_th (cr_any hc) fun φ H xs ds z Q hd eg th k => by
  unfold cAny at eg
  split at eg
  · rename_i es
    obtain ⟨bs, e1, e2⟩ := Option.map_eq_some_iff.mp eg
    subst e2
    obtain ⟨v, rfl, h⟩ := dps1 hd
    cases h with
    | lst h1 h2 =>
      have e := dps_bools h2 e1
      subst e
      exact ⟨_, bs, rfl, seqL_mono low h1, k _ H (Same.refl _) (.bl _)⟩
  · cases eg
theorem cd_all (hc : X.calm = true) : CallD X (.builtin "all") cAll := cd_th (cr_all hc) fun φ H xs ds z Q hd eg th k => by
  unfold cAll at eg
  split at eg
  · rename_i es
    obtain ⟨bs, e1, e2⟩ := Option.map_eq_some_iff.mp eg
    subst e2
    obtain ⟨v, rfl, h⟩ := dps1 hd
    cases h with
    | lst h1 h2 =>
      have e := dps_bools h2 e1
      subst e
      exact ⟨_, bs, rfl, seqL_mono low h1, k _ H (Same.refl _) (.bl _)⟩
  · cases eg
theorem cd_sum (hc : X.calm = true) : CallD X (.builtin "sum") cSum := cd_th (cr_sum hc) fun φ H xs ds z Q hd eg th k => by
  unfold cSum at eg
  split at eg
  · rename_i es
    obtain ⟨bs, e1, e2⟩ := Option.map_eq_some_iff.mp eg
    subst e2
    obtain ⟨v, rfl, h⟩ := dps1 hd
    cases h with
    | lst h1 h2 =>
      have e := dps_ints h2 e1
      subst e
      exact ⟨_, bs, rfl, seqL_mono low h1, k _ H (Same.refl _) (.int _)⟩
  · cases eg
def cTuple : List D → Option D
  | [.list ds] => some (.tuple ds)
  | [.tuple ds] => some (.tuple ds)
  | _ => none
theorem cd_tuple : CallD X (.type "tuple") cTuple := cd_th call_tuple_of fun φ H xs ds z Q hd eg th k => by
  unfold cTuple at eg
  split at eg
  · cases eg
    obtain ⟨v, rfl, h⟩ := dps1 hd
    cases h with
    | lst h1 h2 => exact ⟨_, _, rfl, .inl ⟨seqL_mono low h1, fun p hp => k _ _ (same_new hp) (new_tup hp th h2)⟩⟩
  · cases eg
    obtain ⟨v, rfl, h⟩ := dps1 hd
    cases h with
    | tup h1 h2 => exact ⟨_, _, rfl, .inr ⟨seqT_mono low h1, k _ H (Same.refl _) (.tup h1 h2)⟩⟩
  · cases eg
def cList : List D → Option D
  | [.list ds] => some (.list ds)
  | [.tuple ds] => some (.list ds)
  | _ => none
theorem cd_list : CallD X (.type "list") cList := cd_th call_list_of fun φ H xs ds z Q hd eg th k => by
  unfold cList at eg
  split at eg
  · cases eg
    obtain ⟨v, rfl, h⟩ := dps1 hd
    cases h with
    | lst h1 h2 => exact ⟨_, _, rfl, .inl (seqL_mono low h1), fun p hp => k _ _ (same_new hp) (new_lst hp th h2)⟩
  · cases eg
    obtain ⟨v, rfl, h⟩ := dps1 hd
    cases h with
    | tup h1 h2 => exact ⟨_, _, rfl, .inr (seqT_mono low h1), fun p hp => k _ _ (same_new hp) (new_lst hp th h2)⟩
  · cases eg
/-- ints in order -/
def sortI (ns : List Int) : List Int := ns.mergeSort (fun a b => decide (a ≤ b))
theorem sort_one {xs ys zs : List Int} (h1 : xs.Perm zs) (p1 : xs.Pairwise (· ≤ ·)) (h2 : ys.Perm zs) (p2 : ys.Pairwise (· ≤ ·)) : xs = ys :=
  List.Perm.eq_of_pairwise (fun a b _ _ h h' => Int.le_antisymm h h') p1 p2 (h1.trans h2.symm)
theorem sortI_perm (ns : List Int) : (sortI ns).Perm ns := List.mergeSort_perm _ _
theorem sortI_pw (ns : List Int) : (sortI ns).Pairwise (· ≤ ·) := by
  have := List.pairwise_mergeSort (le := fun a b : Int => decide (a ≤ b)) (fun a b c h1 h2 => by simp at *; omega) (fun a b => by simp; omega) ns
  exact this.imp fun h => by simpa using h
/-- pairs of ints in order -/
def pairsOf : List D → Option (List (Int × Int))
  | [] => some []
  | .tuple [.int a, .int b] :: r => (pairsOf r).map ((a, b) :: ·)
  | _ => none
def encPI (p : Int × Int) : D := .tuple [.int p.1, .int p.2]
def okPI (p : Int × Int) : Prop := 0 ≤ p.1 ∧ p.1 < 1099511627776 ∧ 0 ≤ p.2 ∧ p.2 < 1099511627776
instance (p : Int × Int) : Decidable (okPI p) := by unfold okPI; exact inferInstance
def lePI (a b : Int × Int) : Bool := decide (a.1 * 1099511627776 + a.2 ≤ b.1 * 1099511627776 + b.2)
def sortPI (ps : List (Int × Int)) : List (Int × Int) := ps.mergeSort lePI
theorem sortPI_perm (ps : List (Int × Int)) : (sortPI ps).Perm ps := List.mergeSort_perm _ _
theorem sortPI_pw (ps : List (Int × Int)) : (sortPI ps).Pairwise fun a b => lePI a b = true :=
  List.pairwise_mergeSort (le := lePI) (fun a b c h1 h2 => by unfold lePI at *; simp at *; omega) (fun a b => by unfold lePI; simp; omega) ps
theorem sortPI_one {xs ys zs : List (Int × Int)} (ok : ∀ p ∈ zs, okPI p) (h1 : xs.Perm zs) (p1 : xs.Pairwise fun a b => lePI a b = true) (h2 : ys.Perm zs) (p2 : ys.Pairwise fun a b => lePI a b = true) : xs = ys :=
  List.Perm.eq_of_pairwise (fun a b ha hb h h' => by
    have oa := ok a (h1.mem_iff.mp ha)
    have ob := ok b (h2.mem_iff.mp hb)
    unfold okPI at oa ob
    unfold lePI at h h'
    have h := of_decide_eq_true h
    have h' := of_decide_eq_true h'
    exact Prod.ext (by omega) (by omega)) p1 p2 (h1.trans h2.symm)
theorem pairsOf_eq : ∀ {ds : List D} {ps : List (Int × Int)}, pairsOf ds = some ps → ds = ps.map encPI
  | [], ps, h => by cases h; rfl
  | d :: r, ps, h => by
    unfold pairsOf at h
    split at h
    · rename_i e
      cases e
    · rename_i a b r' e
      cases e
      obtain ⟨qs, e1, e2⟩ := Option.map_eq_some_iff.mp h
      cases e2
      rw [pairsOf_eq e1]
      rfl
    · cases h
def cSorted : List D → Option D
  | [.list ds] => match intsOf ds with
    | some ns => some (.list ((sortI ns).map .int))
    | none => (pairsOf ds).bind fun ps => if ps.length < 64 ∧ ∀ p ∈ ps, okPI p then some (.list ((sortPI ps).map encPI)) else none
  | _ => none
theorem dps_of_ints {H : Hp} : ∀ bs : List Int, DpAll X.K H (bs.map V.int) (bs.map PyData.int)
  | [] => .nil
  | _ :: r => .cons (.int _) (dps_of_ints r)
theorem dps_perm {H : Hp} : ∀ {ys xs : List V} {ds : List D}, ys.Perm xs → DpAll X.K H xs ds → ∃ es : List D, es.Perm ds ∧ DpAll X.K H ys es := by
  intro ys xs ds hp
  induction hp generalizing ds with
  | nil => intro h; cases h; exact ⟨[], .nil, .nil⟩
  | cons x p ih =>
    intro h
    cases h with
    | cons h1 h2 =>
      obtain ⟨es, q1, q2⟩ := ih h2
      exact ⟨_ :: es, q1.cons _, .cons h1 q2⟩
  | swap x y l =>
    intro h
    cases h with
    | cons h1 h2 =>
      cases h2 with
      | cons h3 h4 => exact ⟨_, List.Perm.swap _ _ _, .cons h3 (.cons h1 h4)⟩
  | trans p q ih1 ih2 =>
    intro h
    obtain ⟨es, q1, q2⟩ := ih2 h
    obtain ⟨fs, q3, q4⟩ := ih1 q2
    exact ⟨fs, q3.trans q1, q4⟩
def unP : D → Int × Int
  | .tuple [.int a, .int b] => (a, b)
  | _ => (0, 0)
theorem perm_map_enc {es : List D} {ps : List (Int × Int)} (h : es.Perm (ps.map encPI)) : ∃ qs : List (Int × Int), es = qs.map encPI ∧ qs.Perm ps := by
  refine ⟨es.map unP, ?_, ?_⟩
  · rw [List.map_map]
    have : ∀ e ∈ es, (encPI ∘ unP) e = e := fun e he => by
      obtain ⟨p, _, rfl⟩ := List.mem_map.mp (h.mem_iff.mp he)
      rfl
    exact (List.map_id es).symm.trans (List.map_congr_left fun e he => (this e he).symm)
  · have := h.map unP
    rw [List.map_map] at this
    have e : ps.map (unP ∘ encPI) = ps := by
      have : (unP ∘ encPI) = id := rfl
      rw [this, List.map_id]
    rw [e] at this
    exact this
theorem dp_pair {H : Hp} {v : V} {p : Int × Int} (h : Dp X.K H v (encPI p)) : TupI X.K H v [p.1, p.2] := by
  unfold encPI at h
  cases h with
  | tup h1 h2 =>
    have e := dps_ints (bs := [p.1, p.2]) h2 rfl
    subst e
    exact ⟨_, rfl, h1⟩
theorem pw_pairs {H H' : Hp} (low : ∀ {v : V} {ns : List Int}, TupI X.K H v ns → TupI X.K H' v ns) : ∀ {qs : List (Int × Int)} {ys : List V}, DpAll X.K H ys (qs.map encPI) → ys.Pairwise (fun x y => ∀ n m, TupI X.K H' x n → TupI X.K H' y m → TS.code 1099511627776 n ≤ TS.code 1099511627776 m) → qs.Pairwise fun a b => lePI a b = true
  | [], _, _, _ => .nil
  | p :: r, ys, h, pw => by
    cases h with
    | cons h1 h2 =>
      rename_i v vs
      rw [List.pairwise_cons] at pw
      refine List.pairwise_cons.mpr ⟨fun q hq => ?_, pw_pairs low h2 pw.2⟩
      have mem : ∀ {r : List (Int × Int)} {vs : List V}, DpAll X.K H vs (r.map encPI) → q ∈ r → ∃ u ∈ vs, Dp X.K H u (encPI q) := by
        intro r
        induction r with
        | nil => intro vs _ hq; cases hq
        | cons a r ih =>
          intro vs h hq
          cases h with
          | cons g1 g2 =>
            rcases List.mem_cons.mp hq with rfl | hq
            · exact ⟨_, List.mem_cons_self .., g1⟩
            · obtain ⟨u, m1, m2⟩ := ih g2 hq
              exact ⟨u, List.mem_cons_of_mem _ m1, m2⟩
      obtain ⟨u, m1, m2⟩ := mem h2 hq
      have z := pw.1 u m1 _ _ (low (dp_pair h1)) (low (dp_pair m2))
      have cd : ∀ a b : Int, TS.code 1099511627776 [a, b] = a * 1099511627776 + b := fun a b => by
        show a * 1099511627776 ^ 1 + (b * 1099511627776 ^ 0 + 0) = _
        rw [Int.pow_zero, Int.pow_succ, Int.pow_zero]
        omega
      rw [cd, cd] at z
      exact decide_eq_true z
theorem cd_sorted : CallD X (.builtin "sorted") cSorted := cd_th (cr_sortedI.or (cr_sortT (d := 2) (B := 1099511627776) (by decide))) fun φ H xs ds z Q hd eg th k => by
  unfold cSorted at eg
  split at eg
  · rename_i es
    obtain ⟨v, rfl, h⟩ := dps1 hd
    cases h with
    | lst h1 h2 =>
      split at eg
      · rename_i bs e1
        cases eg
        have e := dps_ints h2 e1
        subst e
        refine .inl ⟨_, bs, rfl, seqL_mono low h1, fun ns' p hp hw hn => ?_⟩
        have := sort_one hp hw (sortI_perm bs) (sortI_pw bs)
        subst this
        exact k _ _ (same_new hn) (new_lst hn th (dps_of_ints _))
      · obtain ⟨ps, e1, eg⟩ := Option.bind_eq_some_iff.mp eg
        split at eg
        · rename_i c
          cases eg
          have e := pairsOf_eq e1
          subst e
          have lowT : ∀ {v : V} {ns : List Int}, TupI X.K (hid φ H) v ns → TupI X.K H v ns := fun ⟨t, e, q⟩ => ⟨t, e, seqT_mono low q⟩
          refine .inr ⟨_, _, rfl, seqL_mono low h1, by rw [dps_len h2, List.length_map]; exact c.1, fun x hx => ?_, fun ys p hp hw hn => ?_⟩
          · have mem : ∀ {r : List (Int × Int)} {vs : List V}, DpAll X.K (hid φ H) vs (r.map encPI) → x ∈ vs → ∃ q ∈ r, Dp X.K (hid φ H) x (encPI q) := by
              intro r
              induction r with
              | nil => intro vs h hx; cases h; cases hx
              | cons a r ih =>
                intro vs h hx
                cases h with
                | cons g1 g2 =>
                  rcases List.mem_cons.mp hx with rfl | hx
                  · exact ⟨_, List.mem_cons_self .., g1⟩
                  · obtain ⟨u, m1, m2⟩ := ih g2 hx
                    exact ⟨u, List.mem_cons_of_mem _ m1, m2⟩
            obtain ⟨q, q1, q2⟩ := mem h2 hx
            have okq := c.2 q q1
            unfold okPI at okq
            refine ⟨_, lowT (dp_pair q2), rfl, fun m hm => ?_⟩
            simp only [List.mem_cons, List.not_mem_nil, or_false] at hm
            rcases hm with rfl | rfl
            · exact ⟨okq.1, okq.2.1⟩
            · exact ⟨okq.2.2.1, okq.2.2.2⟩
          · obtain ⟨es, q1, q2⟩ := dps_perm hp h2
            obtain ⟨qs, rfl, q3⟩ := perm_map_enc q1
            have := sortPI_one c.2 q3 (pw_pairs lowT q2 hw) (sortPI_perm ps) (sortPI_pw ps)
            subst this
            exact k _ _ (same_new hn) (new_lst hn th q2)
        · cases eg
  · cases eg
def cDivmod : List D → Option D
  | [.int i, .int j] => if 0 < j ∧ j < 4611686018427387904 then some (.tuple [.int (i / j), .int (i % j)]) else none
  | _ => none
theorem cd_divmod : CallD X (.builtin "divmod") cDivmod := cd_th call_divmodW fun φ H xs ds z Q hd eg th k => by
  unfold cDivmod at eg
  split at eg
  · rename_i i j
    split at eg
    · rename_i c
      cases eg
      obtain ⟨v, u, rfl, h, h'⟩ := dps2 hd
      cases h; cases h'
      exact ⟨i, j, rfl, ⟨c.1, PyProof.noPylong_of_log2 (log2_small c.2 c.1)⟩, fun p hp => k _ _ (same_new hp) (new_tup hp th (.cons (.int _) (.cons (.int _) .nil)))⟩
    · cases eg
  · cases eg
end
end Ft
namespace Ft
variable [Wd]
open PySem PySem.Spec L2 PyProof.Rows
/-- how long a thing's text is at most -/
def smallS (x : Str) : Bool := x.cps.toList.all fun c => decide (c < 4294967296)
mutual
def shB : D → Nat
  | .none => 4
  | .bool _ => 5
  | .int i => i.natAbs.log2 + 80
  | .str x => 10 * x.length + 2
  | .list xs => shBs xs + 3
  | .tuple xs => shBs xs + 3
  | .dict _ => 0
def shBs : List D → Nat
  | [] => 0
  | x :: r => shB x + 2 + shBs r
end
mutual
/-- its text may be told -/
def tells : D → Bool
  | .none => true
  | .bool _ => true
  | .int i => decide (i.natAbs.log2 < 1920)
  | .str x => smallS x
  | .list xs => tellsA xs
  | .tuple xs => tellsA xs
  | .dict _ => false
def tellsA : List D → Bool
  | [] => true
  | x :: r => tells x && tellsA r
end
mutual
theorem tells_show : ∀ {d : D}, tells d = true → d.showable = true ∧ d.hasDict = false ∧ d.shown.length ≤ shB d
  | .none, _ => ⟨rfl, rfl, by decide⟩
  | .bool b, _ => ⟨rfl, rfl, by cases b <;> decide⟩
  | .int i, h => ⟨h, rfl, by
    unfold tells at h
    have e := int_text_length_le (a := i) (k := i.natAbs.log2 + 1) (by omega) (by omega)
    show (Str.ofString (toString i)).length ≤ i.natAbs.log2 + 80
    rw [PySem.ofString_length]
    omega⟩
  | .str x, h => ⟨rfl, rfl, by
    unfold tells smallS at h
    exact PySem.StrLaws.reprText_len x fun c hc => by
      have := List.all_eq_true.mp h c hc
      have := of_decide_eq_true this
      omega⟩
  | .list xs, h => by
    unfold tells at h
    obtain ⟨a, b, c⟩ := tells_showA (ds := xs) h
    refine ⟨a, b, ?_⟩
    have z := listText_len_le (PyData.shownAll xs)
    show (listText (PyData.shownAll xs)).length ≤ shB (.list xs)
    unfold shB
    omega
  | .tuple xs, h => by
    unfold tells at h
    obtain ⟨a, b, c⟩ := tells_showA (ds := xs) h
    refine ⟨a, b, ?_⟩
    have z := tupleText_len_le (PyData.shownAll xs)
    show (tupleText (PyData.shownAll xs)).length ≤ shB (.tuple xs)
    unfold shB
    omega
  | .dict _, h => by cases h
theorem tells_showA : ∀ {ds : List D}, tellsA ds = true → PyData.showableAll ds = true ∧ PyData.hasDictAll ds = false ∧ ((PyData.shownAll ds).map (·.length)).sum + 2 * (PyData.shownAll ds).length ≤ shBs ds
  | [], _ => ⟨rfl, rfl, by decide⟩
  | x :: r, h => by
    unfold tellsA at h
    have h := Bool.and_eq_true_iff.mp h
    obtain ⟨a1, b1, c1⟩ := tells_show (d := x) h.1
    obtain ⟨a2, b2, c2⟩ := tells_showA (ds := r) h.2
    refine ⟨?_, ?_, ?_⟩
    · show (x.showable && PyData.showableAll r) = true
      rw [a1, a2]; rfl
    · show (x.hasDict || PyData.hasDictAll r) = false
      rw [b1, b2]; rfl
    · show ((x.shown :: PyData.shownAll r).map (·.length)).sum + 2 * (x.shown :: PyData.shownAll r).length ≤ shBs (x :: r)
      unfold shBs
      simp only [List.map_cons, List.sum_cons, List.length_cons] at c2 ⊢
      omega
end
/-- repr(x) -/
def cRepr : List D → Option D
  | [d] => if tells d = true ∧ d.depth ≤ 60 ∧ shB d ≤ sizeLine then some (.str d.shown) else none
  | _ => none
section
variable {X : Cx}
theorem cd_repr (hg : X.A.guards = some []) (hu : X.A.units + 64 < cLine) : CallD X (.builtin "repr") cRepr := fun φ pins s σ H xs us Q I r ⟨ds, z, hd, eg, th, k⟩ => by
  unfold cRepr at eg
  split at eg
  rotate_left
  · cases eg
  rename_i d
  split at eg
  rotate_left
  · cases eg
  rename_i c
  cases eg
  obtain ⟨c1, c2, c3⟩ := c
  obtain ⟨t1, t2, t3⟩ := tells_show c1
  obtain ⟨v, rfl, h⟩ := dps1 hd
  obtain ⟨u, rfl, ru⟩ := vals1 r
  have big : ∀ {p : Addr}, u = .ref p → (∃ as, Reads s.heap u d as) → wpAny (model X.prog X.w) X.A (call (.builtin "repr") [u]) (EP X pins σ Q) X.xe s := fun {p} e ⟨as, rd⟩ => by
    subst e
    exact repr_of_reads' rd t1 (fun e => by rw [t2] at e; cases e) hg (by omega) (fun _ _ e => e) (fun h' uu tk hk => ⟨.str d.shown, H, I.kept (t' := tk) hk, ⟨uu, rfl⟩, k _ H (Same.refl _) (.str _)⟩) (by omega)
  cases h with
  | non =>
    cases (show u = Value.none from ru)
    exact PySem.P.repr_of_none ⟨.str _, H, I.tok _, ⟨_, rfl⟩, k _ H (Same.refl _) (.str _)⟩
  | bl b =>
    cases (show u = Value.bool b from ru)
    refine PySem.P.repr_of_bool ⟨.str _, H, I.tok _, ⟨_, rfl⟩, k _ H (Same.refl _) ?_⟩
    cases b <;> exact .str _
  | int i =>
    obtain ⟨t, q⟩ := (show ∃ t, u = Value.int i t from ru)
    cases q
    unfold tells at c1
    exact PySem.P.repr_of_int (of_decide_eq_true c1) ⟨.str _, H, I.tok _, ⟨_, rfl⟩, k _ H (Same.refl _) (.str _)⟩
  | str x =>
    obtain ⟨t, q⟩ := (show ∃ t, u = Value.str x t from ru)
    cases q
    exact PySem.P.repr_of_str ⟨.str _, H, I.tok _, ⟨_, rfl⟩, k _ H (Same.refl _) (.str _)⟩ (by have : (reprText x).length ≤ shB (.str x) := t3; omega)
  | lst h1 h2 => exact big ru (Dp.reads I _ _ _ ((dp_mono low (.lst h1 h2)).low t2) ru)
  | tup h1 h2 => exact big ru (Dp.reads I _ _ _ ((dp_mono low (.tup h1 h2)).low t2) ru)
  | dic h1 => cases c1
end
inductive Ty where
  | int | bool | str | list | tuple | dict
  deriving DecidableEq
def Ty.nm : Ty → String
  | .int => "int"
  | .bool => "bool"
  | .str => "str"
  | .list => "list"
  | .tuple => "tuple"
  | .dict => "dict"
def Ty.of : Ty → D → Bool
  | .int, .int _ => true
  | .int, .bool _ => true
  | .bool, .bool _ => true
  | .str, .str _ => true
  | .list, .list _ => true
  | .tuple, .tuple _ => true
  | .dict, .dict _ => true
  | _, _ => false
def isiD (T : Ty) (x : D) : Option D := some (.bool (T.of x))
def tyName : D → String
  | .none => "NoneType"
  | .bool _ => "bool"
  | .int _ => "int"
  | .str _ => "str"
  | .list _ => "list"
  | .tuple _ => "tuple"
  | .dict _ => "dict"
theorem isi_kit (T : Ty) (x : D) : kitB (tyName x) T.nm = some (T.of x) := by
  cases T <;> cases x <;> (show kitB _ _ = some _; simp only [tyName, Ty.nm, Ty.of]; decide +kernel)
theorem ty_dp {K : PySem.W.Frag} {H : Hp} {v : V} {d : D} (h : Dp K H v d) : TyX K H v (.type (tyName d)) := by
  cases h with
  | non => exact .base .non
  | bl b => exact .base (.bl b)
  | int i => exact .base (.int i)
  | str x => exact .base (.str x)
  | lst h1 h2 =>
    rcases h1 with (h1 | ⟨o, h1⟩) | ⟨o, its, n, h1, h2, _⟩
    · exact .base (.lst h1)
    · exact .base (.frz h1)
    · exact .kList h1 h2
  | tup h1 h2 =>
    rcases h1 with (h1 | ⟨o, h1⟩) | ⟨o, its, n, h1, h2, _⟩
    · exact .base (.tup h1)
    · exact .fTuple h1
    · exact .kTuple h1 h2
  | dic h1 => exact .base (.dK h1)
section
variable {cl : Nat → Addr} {W' : WX} {F : Fs} {X : Cx} {a : Expr} {ma : Ex} {pos : Pos}
theorem ty_boot (T : Ty) : bootBuiltins (Str.ofString T.nm) = some (.type T.nm) := by
  cases T <;> decide +kernel
theorem r_isi {T : Ty} {x : Str} {p p2 : Pos} (ha : PEm cl W' F X a ma) (hx : x = Str.ofString T.nm) (hgT : Gl X x) (hmT : X.mg x = none) (hg : Gl X "isinstance") (hm : X.mg "isinstance" = none)
    (hs : starEach [a, .Name x p2] X.env = (false, eval a X.env) :: starEach [.Name x p2] X.env) : PEm cl W' F X (.Call (.Name "isinstance" p) [a, .Name x p2] [] pos) (.op1 (isiD T) ma) := by
  subst hx
  refine weak (pe_callB call_isi hg hm PyProof.Rows.boot_isinstance (pa_cons ha (pa_cons (pe_bltn hgT hmT (ty_boot T) (show RelV (.ty T.nm) _ from rfl) (by cases T <;> decide) (by cases T <;> decide)) pa_nil rfl) hs) (by decide) (by decide) hs rfl) fun σ H Q ⟨τ, S, φ, l, sr, h⟩ => ?_
  simp only [ev] at h
  refine ⟨τ, S, φ, l, sr, h.step fun w S1 φ1 v H1 _ n1 s1 r1 h1 => ?_⟩
  cases w with
  | ref n => exact (show False from h1).elim
  | d x =>
    obtain ⟨z, ez, k⟩ := Out.opt h1 s1
    cases ez
    exact ⟨v, .ty T.nm, .type (tyName x), .type T.nm, T.of x, rfl, .ty _, ty_dp (dp_mono low r1), kit_ty (isi_kit T x), k _ H1 (Same.refl _) (.bl _)⟩
end
section
variable {X : Cx}
def gNo2 (_ _ : List D) : Option D := none
def gAppend (ys ds : List D) : Option (D × List D) := match ds with
  | [x] => if ys.length < sizeLine then some (.none, ys ++ [x]) else none
  | _ => none
def gCount (x : Str) (ds : List D) : Option D := match ds with
  | [.str y] => some (.int (Txt.count x y))
  | _ => none
theorem ms_count : MtS X "str.count" gCount := fun φ pins s σ H x xs v us Q I rx rv ⟨t, ds, z, e, hd, eg, th, k⟩ => by
  unfold gCount at eg
  split at eg
  · cases eg
    obtain ⟨v, rfl, h⟩ := dps1 hd
    cases h
    exact mt_count pins s σ H x _ _ us Q I rx rv ⟨_, _, e, rfl, k _ H (Same.refl _) (.int _)⟩
  · cases eg
theorem mw_append : MtW X "list.append" gAppend := fun φ pins s σ H x xs v us Q I rx rv ⟨p, vs, ys, ds, u, zs, e, hp, hy, hd, eg, k⟩ => by
  unfold gAppend at eg
  split at eg
  · split at eg
    · rename_i c
      cases eg
      obtain ⟨v, rfl, h⟩ := dps1 hd
      exact mt_append pins s σ H x _ _ us Q I rx rv ⟨p, vs, v, e, rfl, hp, by rw [dps_len hy]; exact c, k _ _ .non (dps_app hy (.cons h .nil))⟩
    · cases eg
  · cases eg
theorem ml_no {id : String} : MtL X id gNo2 := fun φ pins s σ H x xs v us Q I rx rv ⟨p, vs, ys, ds, z, _, _, _, _, eg, _⟩ => by cases eg
end
end Ft
set_option maxHeartbeats 1000000
namespace Ft
variable [Wd]
open PySem PySem.Spec L2
open PyProof.Rows hiding St
open Builtin Builtin.Float
def fB : FormatSpec := (match parseFormatSpec [98] "int" 62 with
  | .ok f => f
  | .error _ => { align := 62 })
theorem parse_b : parseFormatSpec (("b" : Str).cps.toList) "int" 62 = .ok fB := by rfl
theorem fB_type : fB.type = some 98 := by rfl
theorem fB_w : fB.width = none := by rfl
theorem fB_g : fB.grouping = none := by rfl
theorem fB_s : fB.sign = none := by rfl
theorem fB_a : fB.align = 62 := by rfl
def binS (a : Int) : Str := intField' fB (decide (a < 0)) [] ((Nat.toDigits 2 a.natAbs).map fun c => (if (98 : Nat) == 88 then c.toUpper else c).toNat) [] 4
section
variable {prog : Program} {w : World} {A : Around} {E : Value → Shared → Prop} {s : Shared}
theorem wp_if {α : Type} {M : Model} {c : Prop} [Decidable c] {m n : Sem α} {Q : α → Shared → Prop} (hc : c) (h : wpAny M A m Q E s) : wpAny M A (if c then m else n) Q E s := by
  rw [if_pos hc]; exact h
theorem format_b {a : Int} {t : Tok} {Q : Value → Shared → Prop} (hlen : (binS a).length ≤ sizeLine) (h : Q (.str (binS a) (s.toks + 1)) { s with toks := s.toks + 1 + 1 }) : wpAny (model prog w) A (formatField (.int a t) "b") Q E s := by
  show wpAny _ _ (holding [.int (a : Int) t] (pyFormat (.int a t) "b")) Q E s
  refine wpAny_holding ?_
  unfold pyFormat
  refine wpAny_bind (wpAny_mkStr ?_ (by decide))
  refine wpAny_bind (m := callSpecial? (.int a t) (Str.ofString "__format__") [.str "b" s.toks]) (wpAny_callSpecial?_slot (name := Str.ofString "__format__") (typeIs_int _ _ t) slot_int_format ?_)
  refine wpAny_call (codeAny_call_builtin slot_int_format.plain entry_int_format (slot_int_format.check _ _ _ _ _ _ _ _ (typeIs_int _ _ t) (args_int_format _ _) ?_))
  unfold Builtin.«int.__format__»
  simp only [selfAndOne, noKeywords, Int.intOfSelf, asInt?, asStr?, List.isEmpty_nil, if_true, pure_bind, bind_pure, bind_assoc, show ((("b" : Str).length == 0) = false) from by decide, show ((("b" : Str).cps.toList.drop 1).any (· ≥ 128) || (("b" : Str).cps.getD 0 0 ≥ 128 && !([60, 62, 61, 94] : List Nat).contains (("b" : Str).cps.getD 1 0))) = false from by decide, Bool.false_eq_true, if_false,
    show (Value.str "b" s.toks == Value.none) = false from rfl]
  refine wpAny_bind (wpAny_typeNameOf (T := "str") (typeIs_str _ _ _) (by decide) fun _ => ?_)
  first | refine wpAny_bind (wpAny_typeNameOfCut_int ?_) | refine wpAny_bind (wpAny_typeNameOf_int ?_)
  simp only [parse_b, fB_type]
  apply wp_if
  · decide
  refine Eq.mpr (congrArg (fun z => wpAny _ _ z _ _ _) (?_ : _ = PySem.retStr (binS a))) ?_
  · kernel_rfl
  · unfold PySem.retStr
    refine wpAny_bind (wpAny_mkStr (wpAny_pure ?_) hlen)
    exact wpAny_bind (wpAny_isInstance (typeIs_str _ _ _) isSubtype_str_str (wpAny_pure h))
end
def dBin : D → Option D
  | .int a => if (binS a).length ≤ sizeLine then some (.str (binS a)) else none
  | _ => none
section
variable {cl : Nat → Addr} {W' : WX} {F : Fs} {X : Cx} {a : Expr} {ma : Ex}
theorem r_fmtB {p1 p2 p3 p4 : Pos} {j : Nat} (ha : PEm cl W' F X a ma) : PEm cl W' F X (.JoinedStr [.FormattedValue a (-1) (some (.JoinedStr [.Constant (.str "b") j p1] p2)) p3] p4) (.op1 dBin ma) := by
  refine pe_joined1 ⟨fun pins s σ H Q I ⟨τ, S, φ, l, sr, h⟩ => ?_⟩
  simp only [ev] at h
  refine wpAny_FormattedValue_spec (thn (ha.run pins s σ H (fun v H1 => ∃ i : Int, v = .int i ∧ (binS i).length ≤ sizeLine ∧ Q (.str (binS i)) H1) I ⟨τ, S, φ, l, sr, h.step fun w S1 φ1 v H1 _ n1 s1 r1 h1 => ?_⟩) fun u s1 hu => ?_)
  · cases w with
    | ref n => exact (show False from h1).elim
    | d x =>
      obtain ⟨z, ez, k⟩ := Out.opt h1 s1
      cases x with
      | int i =>
        have ez : (if (binS i).length ≤ sizeLine then some (PyData.str (binS i)) else none) = some z := ez
        split at ez
        · cases ez
          cases r1
          exact ⟨i, rfl, by assumption, k _ H1 (Same.refl _) (.str _)⟩
        · cases ez
      | _ => cases ez
  · obtain ⟨v, H1, I1, r1, i, rfl, hz, q⟩ := hu
    obtain ⟨t, rfl⟩ := r1
    refine thn ((pe_joined1 (pe_str (X := X) (x := "b") (j := j) (pos := p1)) (pos := p2)).run pins s1 σ H1 (fun v H2 => v = .str "b" ∧ H2 = H1) I1 ⟨rfl, rfl⟩) fun u2 s2 hu2 => ?_
    obtain ⟨v2, H2, I2, r2, rfl, rfl⟩ := hu2
    obtain ⟨t2, rfl⟩ := r2
    exact ⟨_, t2, rfl, format_b hz ⟨.str (binS i), _, I2.tok _, ⟨_, rfl⟩, q⟩⟩
end
end Ft
namespace Ft
variable [Wd]
open PySem PySem.Spec L2 PyProof.Rows
def strsOf : List D → Option (List Str)
  | [] => some []
  | .str b :: r => match strsOf r with
    | some bs => some (b :: bs)
    | none => none
  | _ => none
omit [Wd] in
@[simp] theorem strsOf_map (bs : List Str) : strsOf (bs.map PyData.str) = some bs := by
  induction bs with
  | nil => rfl
  | cons b r ih => simp [strsOf, ih]
def joinOk (a : Str) (ys : List Str) : Bool := decide ((ys.map (·.length)).sum + ys.length * a.length ≤ 16777216)
def gJoin (x : Str) (ds : List D) : Option D := match ds with
  | [.list zs] => (strsOf zs).bind fun ys => if joinOk x ys = true then some (.str (Txt.join x ys)) else none
  | [.tuple zs] => (strsOf zs).bind fun ys => if joinOk x ys = true then some (.str (Txt.join x ys)) else none
  | _ => none
def gFind (x : Str) (ds : List D) : Option D := match ds with
  | [.str y] => some (.int (Txt.find x y))
  | _ => none
def firstOf (x y : Str) : Option Nat := (Builtin.Str.occurrences x y 0 x.length 1).head?
def gSIndex (x : Str) (ds : List D) : Option D := match ds with
  | [.str y] => (firstOf x y).map fun (i : Nat) => PyData.int (i : Int)
  | _ => none
def gUpper (x : Str) (ds : List D) : Option D := match ds with
  | [] => if x.length ≤ 5592405 then some (.str (Txt.upper x)) else none
  | _ => none
def gSplit (x : Str) (ds : List D) : Option D := match ds with
  | [.str y] => if (y.length == 0) = false ∧ x.length + 2 ≤ sizeLine then some (.list ((Txt.split x y).map .str)) else none
  | _ => none
/-- the first place of an equal one -/
def eqAtD (ds : List D) (d : D) : Option Nat := ds.findIdx? fun z => PyData.eqv z d
def gIndex (ys ds : List D) : Option D := match ds with
  | [d] => if SeqAt.shaped (.list ys) = true ∧ SeqAt.shaped d = true then (eqAtD ys d).map fun (j : Nat) => PyData.int (j : Int) else none
  | _ => none
def gIndexW (ys ds : List D) : Option (D × List D) := (gIndex ys ds).map fun z => (z, ys)
def gInsert (ys ds : List D) : Option (D × List D) := match ds with
  | [.int i, y] => if ys.length < sizeLine ∧ 0 ≤ i ∧ i < 2 ^ 63 then some (.none, ys.take i.toNat ++ [y] ++ ys.drop i.toNat) else none
  | _ => none
def gPop (ys ds : List D) : Option (D × List D) := match ds with
  | [] => (ys[ys.length - 1]?).map fun y => (y, ys.dropLast)
  | _ => none
def gPopAt (ys ds : List D) : Option (D × List D) := match ds with
  | [.int i] => if -(2 ^ 63) ≤ i ∧ i < 2 ^ 63 then (L2.ixN ys.length i).bind fun k => (ys[k]?).map fun y => (y, ys.eraseIdx k) else none
  | _ => none
def gClear (ys ds : List D) : Option (D × List D) := match ds with
  | [] => some (.none, [])
  | _ => none
/-- t.index(x), t a tuple of texts, x a text -/
def cTIndex : List D → Option D
  | [.tuple zs, .str z] => (strsOf zs).bind fun ys => (ys.findIdx? fun y => y == z).map fun (j : Nat) => PyData.int (j : Int)
  | _ => none
section
variable {X : Cx}
theorem dps_strs {H : Hp} : ∀ {ds : List D} {vs : List V} {bs : List Str}, DpAll X.K H vs ds → strsOf ds = some bs → vs = bs.map V.str
  | [], _, _, h, e => by cases h; cases e; rfl
  | .str b :: r, _, bs, h, e => by
    cases h with
    | cons h1 h2 =>
      cases h1
      unfold strsOf at e
      cases q : strsOf r with
      | none => rw [q] at e; cases e
      | some cs =>
        rw [q] at e
        cases e
        rw [dps_strs h2 q]
        rfl
theorem dps_of_strs {H : Hp} : ∀ bs : List Str, DpAll X.K H (bs.map V.str) (bs.map PyData.str)
  | [] => .nil
  | _ :: r => .cons (.str _) (dps_of_strs r)
theorem ms_th {id : String} {g : Str → List D → Option D} {r : V → List V → Hp → VK → Prop} (hm : MtR X id r) (hg : ∀ φ H t xs ds z (Q : VK), DpAll X.K (hid φ H) xs ds → g t ds = some z → (∀ a, φ.has a → H a ≠ none) → (∀ v H', Same H H' → Dp X.K (hid φ H') v z → Q v H') → r (.str t) xs H Q) : MtS X id g := fun φ pins s σ H x xs v us Q I rx rv ⟨t, ds, z, e, hd, eg, th, k⟩ => by
  subst e
  exact hm pins s σ H _ xs v us Q I rx rv (hg φ H t xs ds z Q hd eg th k)
theorem ms_join : MtS X "str.join" gJoin := ms_th mt_join fun φ H t xs ds z Q hd eg th k => by
  unfold gJoin at eg
  split at eg
  · obtain ⟨ys, e1, e2⟩ := Option.bind_eq_some_iff.mp eg
    split at e2
    · rename_i c
      cases e2
      obtain ⟨v, rfl, h⟩ := dps1 hd
      cases h with
      | lst h1 h2 =>
        have e := dps_strs h2 e1
        subst e
        exact ⟨t, _, ys, rfl, rfl, .inl (seqL_mono low h1), of_decide_eq_true c, k _ H (Same.refl _) (.str _)⟩
    · cases e2
  · obtain ⟨ys, e1, e2⟩ := Option.bind_eq_some_iff.mp eg
    split at e2
    · rename_i c
      cases e2
      obtain ⟨v, rfl, h⟩ := dps1 hd
      cases h with
      | tup h1 h2 =>
        have e := dps_strs h2 e1
        subst e
        exact ⟨t, _, ys, rfl, rfl, .inr (seqT_mono low h1), of_decide_eq_true c, k _ H (Same.refl _) (.str _)⟩
    · cases e2
  · cases eg
theorem ms_find : MtS X "str.find" gFind := ms_th mt_find fun φ H t xs ds z Q hd eg th k => by
  unfold gFind at eg
  split at eg
  · cases eg
    obtain ⟨v, rfl, h⟩ := dps1 hd
    cases h
    exact ⟨_, _, rfl, rfl, k _ H (Same.refl _) (.int _)⟩
  · cases eg
theorem ms_index : MtS X "str.index" gSIndex := ms_th mt_sindex fun φ H t xs ds z Q hd eg th k => by
  unfold gSIndex at eg
  split at eg
  · obtain ⟨i, e1, e2⟩ := Option.map_eq_some_iff.mp eg
    subst e2
    obtain ⟨v, rfl, h⟩ := dps1 hd
    cases h
    unfold firstOf at e1
    obtain ⟨rest, e3⟩ : ∃ rest, Builtin.Str.occurrences t (by assumption) 0 t.length 1 = i :: rest := by
      cases q : Builtin.Str.occurrences t (by assumption) 0 t.length 1 with
      | nil => rw [q] at e1; cases e1
      | cons a r =>
        rw [q] at e1
        cases e1
        exact ⟨r, rfl⟩
    exact ⟨_, _, i, rest, rfl, rfl, e3, k _ H (Same.refl _) (.int _)⟩
  · cases eg
theorem ms_upper : MtS X "str.upper" gUpper := ms_th mt_upper fun φ H t xs ds z Q hd eg th k => by
  unfold gUpper at eg
  split at eg
  · split at eg
    · cases eg
      cases hd
      exact ⟨_, rfl, rfl, by assumption, k _ H (Same.refl _) (.str _)⟩
    · cases eg
  · cases eg
theorem ms_split : MtS X "str.split" gSplit := ms_th mt_split fun φ H t xs ds z Q hd eg th k => by
  unfold gSplit at eg
  split at eg
  · split at eg
    · rename_i c
      cases eg
      obtain ⟨v, rfl, h⟩ := dps1 hd
      cases h
      exact ⟨_, _, rfl, rfl, c.1, c.2, fun p hp => k _ _ (same_new hp) (new_lst hp th (dps_of_strs _))⟩
    · cases eg
  · cases eg
theorem eqAtD_some {ds : List D} {d : D} {j : Nat} (h : eqAtD ds d = some j) : ∃ z, ds[j]? = some z ∧ PyData.eqv z d = true ∧ ∀ (m : Nat) (z' : D), m < j → ds[m]? = some z' → PyData.eqv z' d = false := by
  unfold eqAtD at h
  rw [List.findIdx?_eq_some_iff_getElem] at h
  obtain ⟨h1, h2, h3⟩ := h
  refine ⟨ds[j], List.getElem?_eq_getElem h1, h2, fun m z' hm e => ?_⟩
  have := h3 m hm
  rw [List.getElem?_eq_getElem (by omega)] at e
  cases e
  simpa using this
theorem ml_index (hu : X.A.units + 65 < cLine) : MtL X "list.index" gIndex := fun φ pins s σ H x xs v us Q I rx rv ⟨p, vs, ys, ds, z, e, hp, hy, hd, eg, th, k⟩ => by
  unfold gIndex at eg
  split at eg
  · split at eg
    · rename_i d c
      obtain ⟨j, e1, e2⟩ := Option.map_eq_some_iff.mp eg
      subst e2
      obtain ⟨u, rfl, h⟩ := dps1 hd
      obtain ⟨z, q1, q2, q3⟩ := eqAtD_some e1
      exact mt_indexD hu pins s σ H x _ _ us Q I rx rv ⟨p, u, d, ys, j, z, e, rfl, .lst hp ((dps_mono low hy).low (shaped_lay c.1)), (dp_mono low h).low (shaped_lay c.2), c.1, c.2, q1, q2, q3, k _ H (Same.refl _) (.int _)⟩
    · cases eg
  · cases eg
theorem upd_same' {H : Hp} {p : Addr} {o : HO} (h : H p = some o) : upd H p o = H := by
  funext a
  by_cases e : a = p
  · rw [e, upd_same, h]
  · rw [upd_ne e]
theorem mw_index (hu : X.A.units + 65 < cLine) : MtW X "list.index" gIndexW := fun φ pins s σ H x xs v us Q I rx rv ⟨p, vs, ys, ds, u, zs, e, hp, hy, hd, eg, k⟩ => by
  unfold gIndexW at eg
  obtain ⟨z9, eg9, e9⟩ := Option.map_eq_some_iff.mp eg
  cases e9
  clear eg
  unfold gIndex at eg9
  split at eg9
  · split at eg9
    · rename_i d c
      obtain ⟨j, e1, e2⟩ := Option.map_eq_some_iff.mp eg9
      subst e2
      obtain ⟨u, rfl, h⟩ := dps1 hd
      obtain ⟨z, q1, q2, q3⟩ := eqAtD_some e1
      refine mt_indexD hu pins s σ H x _ _ us Q I rx rv ⟨p, u, d, ys, j, z, e, rfl, .lst (SqL.of hp) ((dps_mono low hy).low (shaped_lay c.1)), (dp_mono low h).low (shaped_lay c.2), c.1, c.2, q1, q2, q3, ?_⟩
      have := k (.int (j : Int)) vs (.int _) hy
      rw [upd_same' hp] at this
      exact this
    · cases eg9
  · cases eg9
theorem mw_insert : MtW X "list.insert" gInsert := fun φ pins s σ H x xs v us Q I rx rv ⟨p, vs, ys, ds, u, zs, e, hp, hy, hd, eg, k⟩ => by
  unfold gInsert at eg
  split at eg
  · split at eg
    · rename_i i y c
      cases eg
      obtain ⟨u1, u2, rfl, h1, h2⟩ := dps2 hd
      cases h1
      exact mt_insert pins s σ H x _ _ us Q I rx rv ⟨p, vs, i, u2, e, rfl, hp, by rw [dps_len hy]; exact c.1, c.2.1, c.2.2, k _ _ .non (dps_app (dps_app (dps_take _ hy) (.cons h2 .nil)) (dps_drop _ hy))⟩
    · cases eg
  · cases eg
theorem dps_take' {K : PySem.W.Frag} {H : Hp} {ds : List D} {vs : List V} (h : DpAll K H vs ds) : DpAll K H vs.dropLast ds.dropLast := by
  rw [List.dropLast_eq_take, List.dropLast_eq_take, dps_len h]
  exact dps_take _ h
theorem dps_erase {K : PySem.W.Frag} {H : Hp} : ∀ {ds : List D} {vs : List V} (n : Nat), DpAll K H vs ds → DpAll K H (vs.eraseIdx n) (ds.eraseIdx n)
  | [], _, _, h => by cases h; exact .nil
  | _ :: _, _, 0, h => by
    cases h with
    | cons h1 h2 => exact h2
  | _ :: _, _, n + 1, h => by
    cases h with
    | cons h1 h2 => exact .cons h1 (dps_erase n h2)
theorem mw_pop : MtW X "list.pop" gPop := fun φ pins s σ H x xs v us Q I rx rv ⟨p, vs, ys, ds, u, zs, e, hp, hy, hd, eg, k⟩ => by
  unfold gPop at eg
  split at eg
  · obtain ⟨y, e1, e2⟩ := Option.map_eq_some_iff.mp eg
    cases e2
    cases hd
    obtain ⟨w, q1, q2⟩ := dps_get hy e1
    exact mt_pop pins s σ H x _ _ us Q I rx rv ⟨p, vs, w, e, rfl, hp, by rw [dps_len hy]; exact q1, k _ _ q2 (dps_take' hy)⟩
  · cases eg
theorem mw_popAt : MtW X "list.pop" gPopAt := fun φ pins s σ H x xs v us Q I rx rv ⟨p, vs, ys, ds, u, zs, e, hp, hy, hd, eg, k⟩ => by
  unfold gPopAt at eg
  split at eg
  · split at eg
    · rename_i i c
      obtain ⟨j, e0, eg⟩ := Option.bind_eq_some_iff.mp eg
      obtain ⟨y, e1, e2⟩ := Option.map_eq_some_iff.mp eg
      cases e2
      obtain ⟨u1, rfl, h1⟩ := dps1 hd
      cases h1
      obtain ⟨w, q1, q2⟩ := dps_get hy e1
      exact mt_popAt pins s σ H x _ _ us Q I rx rv ⟨p, vs, i, j, w, e, rfl, hp, c.1, c.2, by rw [dps_len hy]; exact (ixN_seq e0).1, q1, k _ _ q2 (dps_erase _ hy)⟩
    · cases eg
  · cases eg
theorem mw_clear : MtW X "list.clear" gClear := fun φ pins s σ H x xs v us Q I rx rv ⟨p, vs, ys, ds, u, zs, e, hp, hy, hd, eg, k⟩ => by
  unfold gClear at eg
  split at eg
  · cases eg
    cases hd
    exact mt_clear pins s σ H x _ _ us Q I rx rv ⟨p, vs, e, rfl, hp, k _ _ .non .nil⟩
  · cases eg
end
section
variable {cl : Nat → Addr} {W' : WX} {F : Fs} {X : Cx} {a : Expr} {pos : Pos}
/-- a list's method without arguments, which changes it -/
theorem r_mlst0 {gs : List D → List D → Option (D × List D)} {o : Expr} {mo : Ex} {name : Str} {id : String} {apos : Pos} (pa : PlainAttrs "list") (slot : Slot "list" name id) (hty : typeOf (.builtin id) = pure (.type "method_descriptor")) (hw : MtW X id gs)
    (ho : PEm cl W' F X o mo) (hbase : attributeBase o name X.env (eval o X.env) = eval o X.env) (hline : (apos.endLine == pos.line) = true) : PEm cl W' F X (.Call (.Attribute o name apos) [] [] pos) (.mlst gNo2 gs mo .nil) := by
  refine weak (pe_bm0 (r := fun x xs H Q => ∃ φ : Ms, ∃ p vs ys ds u zs, x = .ref p ∧ H p = some (.lst vs) ∧ DpAll X.K (hid φ H) vs ys ∧ DpAll X.K (hid φ H) xs ds ∧ gs ys ds = some (u, zs) ∧ ∀ v us, Dp X.K (hid φ H) v u → DpAll X.K (hid φ H) us zs → Q v (upd H p (.lst us))) pa slot hty (fun pins s σ H x xs v us Q I rx rs ⟨φ, z⟩ => hw φ pins s σ H x xs v us Q I rx rs z) ho hbase hline) fun σ H Q ⟨τ, S, φ, l, sr, h⟩ => ?_
  simp only [ev, evs, Res.bind_ok, datas] at h
  refine ⟨τ, S, φ, l, sr, h.step fun w S1 φ1 v H1 _ n1 s1 r1 h1 => ?_⟩
  cases w with
  | ref n =>
    obtain ⟨p, ep, rfl⟩ := r1
    dsimp only at h1
    cases qn : S1[n]? with
    | none => rw [qn] at h1; exact h1.elim
    | some ob =>
      rw [qn] at h1
      cases ob with
      | dl ys =>
        dsimp only at h1
        cases qg : gs ys [] with
        | none => rw [qg] at h1; exact h1.elim
        | some r =>
          obtain ⟨u, zs⟩ := r
          rw [qg] at h1
          obtain ⟨nf, us0, e4, e5⟩ := s1.at_ n _ p qn ep
          refine ⟨.inl ⟨rfl, us0, .inl (.inl e4)⟩, φ1, p, us0, ys, [], u, zs, rfl, e4, e5, .nil, qg, fun v us ru rz => ?_⟩
          have sm : Same (hid φ1 H1) (hid φ1 (upd H1 p (.lst us))) := fun b o e => by
            obtain ⟨z1, z2⟩ := hid_some e
            refine hid_of z1 ?_
            rw [upd_ne (fun z => z1 (.inl (by rw [z]; exact ⟨List.mem_of_getElem? ep, nf⟩)))]
            exact z2
          obtain ⟨s3, n3⟩ := s1.put ep nf (o := .lst us) (ob := .dl zs) ⟨nf, us, upd_same, dps_mono sm rz⟩
          exact h1 φ1 v _ n3 s3 (dp_mono sm ru)
      | _ => exact (show False from h1).elim
  | d x =>
    cases x with
    | list ys =>
      exact (show False from h1).elim
    | _ => exact (show False from h1).elim
/-- index of a constant tuple -/
theorem r_tidx {o : Expr} {es : List Expr} {ms : Exs} {ds : List D} {v : V} {p : Addr} {ob : Obj} {apos : Pos} (ho : PE X o (tC v)) (hv : v = .ref p) (hK : X.K.lookup p = some ob) (hc : ob.cls = .type "tuple") (hdn : ob.dict = none) (hD : ∀ H, Dp X.K H v (.tuple ds))
    (ha : PAm cl W' F X (a :: es) ms) (hbase : attributeBase o "index" X.env (eval o X.env) = eval o X.env)
    (hfew : ((backTo pos (starEach (a :: es) X.env)).all (fun x => !x.1) && (backToKw pos (keywordEach [] X.env)).all (fun x => x.1.isSome)
      && decide ((a :: es).length + ([] : List Keyword).length + (if ([] : List Keyword).isEmpty then 0 else 1) < 30)) = true)
    (hline : (apos.endLine == pos.line) = true) (hs : starEach (a :: es) X.env = (false, eval a X.env) :: starEach es X.env) (hplain : (backTo pos (starEach es X.env)).any (·.1) = false) :
    PEm cl W' F X (.Call (.Attribute o "index" apos) (a :: es) [] pos) (.opn cTIndex (.cons (.c (.tuple ds)) ms)) := by
  subst hv
  refine weak (pe_bm PySem.F.plainAttrs_tuple PySem.F.slot_tuple_index PySem.F.type_tuple_index mt_tup_index ho ha hbase hfew hline hs hplain) fun σ H Q ⟨τ, S, φ, l, sr, h⟩ => ?_
  simp only [ev, evs, Res.bind_ok] at h
  refine ⟨.inr (.inl ⟨rfl, ob, hK, hc, hdn⟩), τ, S, φ, l, sr, ?_⟩
  show Out cl X.K W' (WRs X.K) σ φ H (evs F τ S ms) _
  cases q : evs F τ S ms with
  | no => rw [q] at h; exact h.elim
  | exc e S1 => rw [q] at h; exact h
  | ok ws S1 =>
    rw [q] at h
    intro φ1 vs H1 n1 s1 r1
    dsimp only [Res.bind_ok, datas] at h
    cases qd : datas ws with
    | none => rw [qd] at h; exact h.elim
    | some xs =>
      rw [qd] at h
      have h := Out.later (cl := cl) (K := X.K) (W' := W') (R := WR X.K) (σ := σ) h n1
      obtain ⟨z, ez, k⟩ := Out.opt h s1
      unfold cTIndex at ez
      split at ez
      · rename_i zs z0 eq
        cases eq
        obtain ⟨ys, e1, e2⟩ := Option.bind_eq_some_iff.mp ez
        obtain ⟨j, e3, e4⟩ := Option.map_eq_some_iff.mp e2
        subst e4
        obtain ⟨w, rfl, hw⟩ := dps1 (r1.datas qd)
        cases hw
        have hT := hD H1
        cases hT with
        | tup h1 h2 =>
          have e := dps_strs h2 e1
          subst e
          rw [List.findIdx?_eq_some_iff_getElem] at e3
          obtain ⟨g1, g2, g3⟩ := e3
          refine ⟨p, ys, z0, j, rfl, rfl, h1, ?_, fun m hm e => ?_, k _ H1 (Same.refl _) (.int _)⟩
          · rw [List.getElem?_eq_getElem g1]
            exact congrArg some (eq_of_beq g2)
          · have := g3 m hm
            rw [List.getElem?_eq_getElem (by omega)] at e
            cases e
            simp at this
      · cases ez
def lenSet (ns : List Int) : Nat := (PyProof.Rows.firstMet (fun i => ns.getD i 0) ns.length).length
def cLenSet : List D → Option D
  | [.list ds] => (intsOf ds).bind fun ns => if ns.length ≤ 1000 then some (.int (lenSet ns : Int)) else none
  | _ => none
def tLenSetL (K : PySem.W.Frag) (ta : TE) : TE := fun σ H Q => ta σ H fun x H1 => ∃ (l : Addr) (ns : List Int), x = V.ref l ∧ SqL K H1 l (ns.map V.int) ∧ ns.length ≤ 1000 ∧ Q (.int (lenSet ns : Int)) H1
theorem pe_lenSetL {a : Expr} {ta : TE} {p p2 q pos : Pos} (hc : X.calm = true) (hg : Gl X "len") (hm : X.mg "len" = none) (hg2 : Gl X "set") (hm2 : X.mg "set" = none) (ha : PE X a ta)
    (na : starEach [a] X.env = (false, eval a X.env) :: starEach [] X.env) : PE X (.Call (.Name "len" p) [.Call (.Name "set" p2) [a] [] q] [] pos) (tLenSetL X.K ta) := by
  refine ⟨fun pins s σ H Q I h => ?_⟩
  refine Call_ (ld_blt I hg hm PySem.boot_len ?_)
  refine PyProof.Rows.callWith_builtin1 (PyProof.Rows.args_cons ?_ rfl) rfl rfl
  refine Call_ (ld_blt I hg2 hm2 PyProof.Rows.boot_set ?_)
  refine PyProof.Rows.callWith_type1 (PyProof.Rows.args_cons (thn (ha.run pins s σ H _ I h) fun v s1 ⟨x, H1, I1, r1, q1⟩ => PyProof.Rows.args_nil ?_) na) na rfl
  obtain ⟨l, ns, rfl, hq, h1, q1⟩ := q1
  cases r1
  obtain ⟨its, r, pl, hz⟩ := I1.list hq
  have hl : its.toArray.size = ns.length := by rw [List.size_toArray, ← r.length, List.length_map]
  refine PySem.call_set_list (I1.ok.hd hc) pl.isList (ns := ns) (by simpa using r.ints) (by unfold scanBound; omega) fun h' tk hS hk => ?_
  rw [hl] at hS
  refine PyProof.Rows.args_nil ?_
  obtain ⟨o, es, ep, t, ho, hex, hd, _, _, _, hf, hn⟩ := hS
  have I2 : Inv X pins σ H1 { s1 with heap := h', toks := tk } := I1.kept fun b o e => hk b o (Heap.lt_size e) e
  have hle : lenSet ns ≤ ns.length := PyProof.Rows.firstMet_length_le _ _
  refine PySem.call_len_set ho hex hd hf (by rw [hn]; unfold lenSet at hle; omega) ⟨.int (lenSet ns : Int), H1, I2.tok _, ⟨_, by rw [hn]; rfl⟩, q1⟩
theorem r_lenset {cl : Nat → Addr} {W' : WX} {F : Fs} {a : Expr} {ma : Ex} {p p2 q pos : Pos} (ha : PEm cl W' F X a ma) (hc : X.calm = true) (hg : Gl X "len") (hm : X.mg "len" = none) (hg2 : Gl X "set") (hm2 : X.mg "set" = none) (na : starEach [a] X.env = (false, eval a X.env) :: starEach [] X.env) :
    PEm cl W' F X (.Call (.Name "len" p) [.Call (.Name "set" p2) [a] [] q] [] pos) (.opn cLenSet (.cons ma .nil)) := weak (pe_lenSetL hc hg hm hg2 hm2 ha na) fun σ H Q hh => by
  obtain ⟨τ, S, φ, l, sr, h⟩ := hh
  simp only [ev, evs, Res.assoc, Res.bind_ok] at h
  refine ⟨τ, S, φ, l, sr, h.step fun w S1 φ1 v H1 _ n1 s1 r1 h1 => ?_⟩
  cases w with
  | ref n => exact h1.elim
  | d x =>
    have h2 : Out cl X.K W' (WR X.K) σ φ1 H1 (opt ((cLenSet [x]).map W.d) S1) Q := h1
    obtain ⟨z, ez, k⟩ := Out.opt h2 s1
    have r2 : Dp X.K (hid φ1 H1) v x := r1
    unfold cLenSet at ez
    split at ez
    · rename_i ds e
      cases e
      obtain ⟨ns, e1, e2⟩ := Option.bind_eq_some_iff.mp ez
      split at e2
      · rename_i c
        cases e2
        cases r2 with
        | lst g1 g2 =>
          have e := dps_ints g2 e1
          subst e
          exact ⟨_, ns, rfl, seqL_mono low g1, c, k _ H1 (Same.refl _) (.int _)⟩
      · cases e2
    · cases ez
end
end Ft
set_option maxHeartbeats 1000000
namespace Ft
variable [Wd]
open PySem PySem.Spec PyProof.Rows L2 RZ
/-- a list, a tuple -/
inductive SK where
  | l
  | t
def SK.it : SK → Heap → Addr → Addr → Nat → Prop
  | .l => Heap.IsListIter
  | .t => Heap.IsTupleIter
def SK.sq : SK → Heap → Addr → Array Value → Prop
  | .l => Heap.IsList
  | .t => Heap.IsTuple
def SK.Sq (K : PySem.W.Frag) : SK → Hp → Addr → List V → Prop
  | .l => SqL K
  | .t => SqT K
def SK.cls : SK → String
  | .l => "list_iterator"
  | .t => "tuple_iterator"
theorem itExt {α : SK} {h h' : Heap} {a b l : Addr} {i : Nat} (x : α.it h a l i) (hs : Heap.ExtBut b h h') (hab : a ≠ b) : α.it h' a l i := by
  cases α
  · exact Heap.IsListIter.extBut x hs hab
  · exact Heap.IsTupleIter.extBut x hs hab
theorem itAt {α : SK} {h h' : Heap} {a l : Addr} {i : Nat} (x : α.it h a l i) (e : ∀ o, h.get? a = some o → h'.get? a = some o) : α.it h' a l i := by
  cases α
  · exact Heap.IsListIter.at x e
  · exact Heap.IsTupleIter.at x e
theorem itLt {α : SK} {h : Heap} {a l : Addr} {i : Nat} (x : α.it h a l i) : a < h.objs.size := by
  cases α
  · obtain ⟨_, e, _⟩ := x; exact Heap.lt_size e
  · obtain ⟨_, e, _⟩ := x; exact Heap.lt_size e
theorem itOb {α : SK} {h : Heap} {a l : Addr} {i : Nat} (x : α.it h a l i) : ∃ o, h.get? a = some o ∧ ∀ v, o.data ≠ .cell v := by
  cases α
  · obtain ⟨o, e, _, d⟩ := x; exact ⟨o, e, fun v q => by rw [d] at q; cases q⟩
  · obtain ⟨o, e, _, d⟩ := x; exact ⟨o, e, fun v q => by rw [d] at q; cases q⟩
theorem sqExt {α : SK} {h h' : Heap} {a b : Addr} {items : Array Value} (x : α.sq h a items) (hs : Heap.ExtBut b h h') (hab : a ≠ b) : α.sq h' a items := by
  cases α
  · exact Heap.IsList.extBut x hs hab
  · exact Heap.IsTuple.extBut x hs hab
theorem sqLt {α : SK} {h : Heap} {a : Addr} {items : Array Value} (x : α.sq h a items) : a < h.objs.size := by
  cases α
  · obtain ⟨_, e, _⟩ := x; exact Heap.lt_size e
  · obtain ⟨_, e, _⟩ := x; exact Heap.lt_size e
section
variable {prog : Program} {w : World} {A : Around} {E : Value → Shared → Prop} {s : Shared}
theorem SK.next {α : SK} {it l : Addr} {i : Nat} {items : Array Value} {x : Value} {Q : Value → Shared → Prop} (hit : α.it s.heap it l i) (hl : α.sq s.heap l items) (hx : items[i]? = some x)
    (hQ : ∀ h', α.it h' it l (i + 1) → Heap.SameBut it s.heap h' → Q x { s with heap := h' }) : wpAny (model prog w) A (Builtin.SmallTypes.nextOf (.ref it)) Q E s := by
  cases α
  · exact wpAny_nextOf_list_item hit hl hx hQ
  · exact nextOf_tuple_item hit hl hx hQ
theorem SK.end_ {α : SK} {it l : Addr} {i : Nat} {items : Array Value} {Q : Value → Shared → Prop} (hh : A.handled = none) (hit : α.it s.heap it l i) (hl : α.sq s.heap l items) (hx : items[i]? = none)
    (hE : ∀ h' e, Heap.ExtBut it s.heap h' → (∃ o, h'.get? e = some o ∧ o.cls = .type "StopIteration") → E (.ref e) { s with heap := h' }) : wpAny (model prog w) A (Builtin.SmallTypes.nextOf (.ref it)) Q E s := by
  cases α
  · exact wpAny_nextOf_list_end hh hit hl hx hE
  · exact nextOf_tuple_end hh hit hl hx hE
theorem zipK_item {α β : SK} {z TI TO i1 i2 l1 l2 : Addr} {k1 k2 : Nat} {xs ys : Array Value} {x y a b : Value} {Q : Value → Shared → Prop} (D : ZipApart z TI TO i1 i2 l1 l2)
    (hz : IsZip s.heap z TI TO .none) (hTI : IsPair s.heap TI (.ref i1) (.ref i2)) (hTO : IsPair s.heap TO a b)
    (h1 : α.it s.heap i1 l1 k1) (h2 : β.it s.heap i2 l2 k2) (hl1 : α.sq s.heap l1 xs) (hl2 : β.sq s.heap l2 ys) (hx : xs[k1]? = some x) (hy : ys[k2]? = some y)
    (hQ : ∀ h', IsZip h' z TI TO (rawInt s.heap.objs.size) → IsPair h' TO x y → α.it h' i1 l1 (k1 + 1) → β.it h' i2 l2 (k2 + 1) → IsPair h' s.heap.objs.size x y → h'.objs.size = s.heap.objs.size + 1 →
      (∀ c o, c ≠ z → c ≠ TO → c ≠ i1 → c ≠ i2 → s.heap.get? c = some o → h'.get? c = some o) → Q (.ref s.heap.objs.size) { s with heap := h' }) :
    wpAny (model prog w) A (Builtin.«zip.__next__» ⟨[.ref z], []⟩) (fun fin s' => ∃ v, fin = .done (.ret v) ∧ Q v s') E s := by
  show wpAny _ _ (field (.ref z) 2 >>= _) _ _ _
  refine wpAny_bind (wpAny_field hz rfl (x := .bool false) rfl ?_)
  show wpAny _ _ (field (.ref z) 3 >>= _) _ _ _
  refine wpAny_bind (wpAny_field hz rfl (x := .ref TI) rfl ?_)
  refine wpAny_bind (wpAny_seqItems hTI rfl ?_)
  show wpAny _ _ (Builtin.SmallTypes.ownedTupleIsFree (.ref z) >>= _) _ _ _
  refine wpAny_bind ?_
  unfold Builtin.SmallTypes.ownedTupleIsFree
  refine wpAny_bind (wpAny_field hz rfl (x := .none) rfl (wpAny_pure ?_))
  simp only [if_true]
  refine wpAny_bind (wpAny_rule ?_)
  refine wpAny_bind (wpAny_field hz rfl (x := .ref TO) rfl ?_)
  refine wpAny_bind (wpAny_setField_rec hz (by simp) fun h₁ hz₁ hs₁ => ?_)
  replace hz₁ : IsZip h₁ z TI TO .ellipsis := hz₁
  refine wpAny_bind ?_
  simp only [List.zipIdx_cons, List.zipIdx_nil, List.forIn_cons, List.forIn_nil]
  refine wpAny_bind (wpAny_bind (wpAny_onRaise ?_))
  show wpAny _ _ (Builtin.SmallTypes.nextOf (.ref i1) >>= _) _ _ _
  refine wpAny_bind (SK.next (itExt h1 hs₁.extBut D.i1z) (sqExt hl1 hs₁.extBut D.l1z) hx fun h₂ h1₂ hs₂ => wpAny_pure ?_)
  have hTO₂ : IsPair h₂ TO a b := hs₂.extBut _ _ D.TOi1 (hs₁.extBut _ _ D.TOz hTO)
  refine wpAny_bind (wpAny_seqItems hTO₂ rfl ?_)
  refine wpAny_bind (wpAny_updateSeq_pair hTO₂ fun h₃ hTO₃ hs₃ => ?_)
  replace hTO₃ : IsPair h₃ TO x b := hTO₃
  refine wpAny_bind (wpAny_letGo (wpAny_pure ?_))
  refine wpAny_bind (wpAny_bind (wpAny_onRaise ?_))
  show wpAny _ _ (Builtin.SmallTypes.nextOf (.ref i2) >>= _) _ _ _
  refine wpAny_bind (SK.next (itExt (itExt (itExt h2 hs₁.extBut D.i2z) hs₂.extBut D.i12.symm) hs₃.extBut D.TOi2.symm)
    (sqExt (sqExt (sqExt hl2 hs₁.extBut D.l2z) hs₂.extBut D.l2i1) hs₃.extBut D.l2TO) hy fun h₄ h2₄ hs₄ => wpAny_pure ?_)
  have hTO₄ : IsPair h₄ TO x b := hs₄.extBut _ _ D.TOi2 hTO₃
  refine wpAny_bind (wpAny_seqItems hTO₄ rfl ?_)
  refine wpAny_bind (wpAny_updateSeq_pair hTO₄ fun h₅ hTO₅ hs₅ => ?_)
  replace hTO₅ : IsPair h₅ TO x y := hTO₅
  refine wpAny_bind (wpAny_letGo (wpAny_pure (wpAny_pure ?_)))
  refine wpAny_bind (wpAny_seqItems hTO₅ rfl ?_)
  refine wpAny_bind (wpAny_newTuple ?_)
  have hsz : h₅.objs.size = s.heap.objs.size := by rw [hs₅.1, hs₄.1, hs₃.1, hs₂.1, hs₁.1]
  have hz₅ : IsZip h₅ z TI TO .ellipsis := hs₅.extBut _ _ D.TOz.symm (hs₄.extBut _ _ D.i2z.symm (hs₃.extBut _ _ D.TOz.symm (hs₂.extBut _ _ D.i1z.symm hz₁)))
  have hk₅ : ∀ c o, c ≠ z → c ≠ TO → c ≠ i1 → c ≠ i2 → s.heap.get? c = some o → h₅.get? c = some o := fun c o c1 c2 c3 c4 e =>
    hs₅.extBut _ _ c2 (hs₄.extBut _ _ c4 (hs₃.extBut _ _ c2 (hs₂.extBut _ _ c3 (hs₁.extBut _ _ c1 e))))
  have h1₅ : α.it h₅ i1 l1 (k1 + 1) := itExt (itExt (itExt h1₂ hs₃.extBut D.TOi1.symm) hs₄.extBut D.i12) hs₅.extBut D.TOi1.symm
  have h2₅ : β.it h₅ i2 l2 (k2 + 1) := itExt h2₄ hs₅.extBut D.TOi2.symm
  have hzlt : z < h₅.objs.size := Heap.lt_size hz₅
  have hTOlt : TO < h₅.objs.size := Heap.lt_size hTO₅
  have hi1lt : i1 < h₅.objs.size := by exact itLt h1₅
  have hi2lt : i2 < h₅.objs.size := by exact itLt h2₅
  show wpAny _ _ (Builtin.SmallTypes.ownedTupleHandOut (.ref z) (.ref h₅.objs.size) >>= _) _ _ _
  refine wpAny_bind ?_
  unfold Builtin.SmallTypes.ownedTupleHandOut
  have hz₆ : IsZip (h₅.push { cls := .type "tuple", data := .seq #[x, y] }) z TI TO .ellipsis := Heap.get?_push_of_some _ hz₅
  refine wpAny_bind (wpAny_setField_rec hz₆ (by simp) fun h₇ hz₇ hs₇ => ?_)
  replace hz₇ : IsZip h₇ z TI TO (rawInt h₅.objs.size) := hz₇
  refine wpAny_setField_rec hz₇ (by simp) fun h₈ hz₈ hs₈ => ?_
  replace hz₈ : IsZip h₈ z TI TO (rawInt h₅.objs.size) := hz₈
  have up : ∀ c o, c ≠ z → h₅.get? c = some o → h₈.get? c = some o := fun c o c1 e => hs₈.extBut _ _ c1 (hs₇.extBut _ _ c1 (Heap.get?_push_of_some _ e))
  have hT₈ : IsPair h₈ h₅.objs.size x y := hs₈.extBut _ _ (Nat.ne_of_gt hzlt) (hs₇.extBut _ _ (Nat.ne_of_gt hzlt) (Heap.get?_push_size _ rfl))
  have hz8 : h₈.objs.size = h₅.objs.size + 1 := by rw [hs₈.1, hs₇.1, Heap.size_push]
  rw [hsz] at hz₈ hT₈ hz8
  refine wpAny_pure ⟨_, rfl, ?_⟩
  show Q (.ref h₅.objs.size) _
  rw [hsz]
  exact hQ h₈ hz₈ (up _ _ D.TOz hTO₅) (itAt h1₅ fun o e => up _ o D.i1z e) (itAt h2₅ fun o e => up _ o D.i2z e) hT₈ hz8 fun c o c1 c2 c3 c4 e => up c o c1 (hk₅ c o c1 c2 c3 c4 e)
theorem zipK_end {α β : SK} {z TI TO i1 i2 l1 l2 : Addr} {k1 k2 : Nat} {xs ys : Array Value} {a b : Value} {Q : Fin → Shared → Prop} (hh : A.handled = none) (D : ZipApart z TI TO i1 i2 l1 l2)
    (hz : IsZip s.heap z TI TO .none) (hTI : IsPair s.heap TI (.ref i1) (.ref i2)) (hTO : IsPair s.heap TO a b)
    (h1 : α.it s.heap i1 l1 k1) (h2 : β.it s.heap i2 l2 k2) (hl1 : α.sq s.heap l1 xs) (hl2 : β.sq s.heap l2 ys) (hend : xs[k1]? = none ∨ ys[k2]? = none)
    (hE : ∀ h' e, (∀ c o, c ≠ z → c ≠ TO → c ≠ i1 → c ≠ i2 → s.heap.get? c = some o → h'.get? c = some o) → (∃ o, h'.get? e = some o ∧ o.cls = .type "StopIteration") → E (.ref e) { s with heap := h' }) :
    wpAny (model prog w) A (Builtin.«zip.__next__» ⟨[.ref z], []⟩) Q E s := by
  show wpAny _ _ (field (.ref z) 2 >>= _) _ _ _
  refine wpAny_bind (wpAny_field hz rfl (x := .bool false) rfl ?_)
  show wpAny _ _ (field (.ref z) 3 >>= _) _ _ _
  refine wpAny_bind (wpAny_field hz rfl (x := .ref TI) rfl ?_)
  refine wpAny_bind (wpAny_seqItems hTI rfl ?_)
  show wpAny _ _ (Builtin.SmallTypes.ownedTupleIsFree (.ref z) >>= _) _ _ _
  refine wpAny_bind ?_
  unfold Builtin.SmallTypes.ownedTupleIsFree
  refine wpAny_bind (wpAny_field hz rfl (x := .none) rfl (wpAny_pure ?_))
  simp only [if_true]
  refine wpAny_bind (wpAny_rule ?_)
  refine wpAny_bind (wpAny_field hz rfl (x := .ref TO) rfl ?_)
  refine wpAny_bind (wpAny_setField_rec hz (by simp) fun h₁ hz₁ hs₁ => ?_)
  replace hz₁ : IsZip h₁ z TI TO .ellipsis := hz₁
  refine wpAny_bind ?_
  simp only [List.zipIdx_cons, List.zipIdx_nil, List.forIn_cons, List.forIn_nil]
  refine wpAny_bind (wpAny_bind (wpAny_onRaise ?_))
  show wpAny _ _ (Builtin.SmallTypes.nextOf (.ref i1) >>= _) _ _ _
  cases hx : xs[k1]? with
  | none =>
    refine wpAny_bind (SK.end_ hh (itExt h1 hs₁.extBut D.i1z) (sqExt hl1 hs₁.extBut D.l1z) hx fun h₂ e hs₂ he => ?_)
    obtain ⟨oe, hoe, hce⟩ := he
    have hz₂ : IsZip h₂ z TI TO .ellipsis := hs₂ _ _ D.i1z.symm hz₁
    have hez : e ≠ z := fun x => by subst x; rw [hz₂] at hoe; cases hoe; simp at hce
    refine wpAny_setField_rec hz₂ (by simp) fun h₃ _ hs₃ => hE h₃ e (fun c o c1 _ c3 _ x => hs₃.extBut _ _ c1 (hs₂ _ _ c3 (hs₁.extBut _ _ c1 x))) ⟨oe, hs₃.extBut _ _ hez hoe, hce⟩
  | some x =>
    have hy : ys[k2]? = none := by rcases hend with h | h; rw [hx] at h; cases h; exact h
    refine wpAny_bind (SK.next (itExt h1 hs₁.extBut D.i1z) (sqExt hl1 hs₁.extBut D.l1z) hx fun h₂ h1₂ hs₂ => wpAny_pure ?_)
    have hTO₂ : IsPair h₂ TO a b := hs₂.extBut _ _ D.TOi1 (hs₁.extBut _ _ D.TOz hTO)
    refine wpAny_bind (wpAny_seqItems hTO₂ rfl ?_)
    refine wpAny_bind (wpAny_updateSeq_pair hTO₂ fun h₃ hTO₃ hs₃ => ?_)
    refine wpAny_bind (wpAny_letGo (wpAny_pure ?_))
    refine wpAny_bind (wpAny_bind (wpAny_onRaise ?_))
    show wpAny _ _ (Builtin.SmallTypes.nextOf (.ref i2) >>= _) _ _ _
    refine wpAny_bind (SK.end_ hh (itExt (itExt (itExt h2 hs₁.extBut D.i2z) hs₂.extBut D.i12.symm) hs₃.extBut D.TOi2.symm)
      (sqExt (sqExt (sqExt hl2 hs₁.extBut D.l2z) hs₂.extBut D.l2i1) hs₃.extBut D.l2TO) hy fun h₄ e hs₄ he => ?_)
    obtain ⟨oe, hoe, hce⟩ := he
    have hz₄ : IsZip h₄ z TI TO .ellipsis := hs₄ _ _ D.i2z.symm (hs₃.extBut _ _ D.TOz.symm (hs₂.extBut _ _ D.i1z.symm hz₁))
    have hez : e ≠ z := fun x => by subst x; rw [hz₄] at hoe; cases hoe; simp at hce
    refine wpAny_setField_rec hz₄ (by simp) fun h₅ _ hs₅ => hE h₅ e (fun c o c1 c2 c3 c4 x => hs₅.extBut _ _ c1 (hs₄ _ _ c4 (hs₃.extBut _ _ c2 (hs₂.extBut _ _ c3 (hs₁.extBut _ _ c1 x))))) ⟨oe, hs₅.extBut _ _ hez hoe, hce⟩
theorem pyNext_zipK_item {α β : SK} {z TI TO i1 i2 l1 l2 : Addr} {k1 k2 : Nat} {xs ys : Array Value} {x y a b : Value} {Q : Option Value → Shared → Prop} (D : ZipApart z TI TO i1 i2 l1 l2)
    (hz : IsZip s.heap z TI TO .none) (hTI : IsPair s.heap TI (.ref i1) (.ref i2)) (hTO : IsPair s.heap TO a b)
    (h1 : α.it s.heap i1 l1 k1) (h2 : β.it s.heap i2 l2 k2) (hl1 : α.sq s.heap l1 xs) (hl2 : β.sq s.heap l2 ys) (hx : xs[k1]? = some x) (hy : ys[k2]? = some y)
    (hQ : ∀ h', IsZip h' z TI TO (rawInt s.heap.objs.size) → IsPair h' TO x y → α.it h' i1 l1 (k1 + 1) → β.it h' i2 l2 (k2 + 1) → IsPair h' s.heap.objs.size x y → h'.objs.size = s.heap.objs.size + 1 →
      (∀ c o, c ≠ z → c ≠ TO → c ≠ i1 → c ≠ i2 → s.heap.get? c = some o → h'.get? c = some o) → Q (some (.ref s.heap.objs.size)) { s with heap := h' }) :
    wpAny (model prog w) A (pyNext (.ref z)) Q E s := by
  have hT : s.TypeIs (.ref z) "zip" := ⟨_, hz, rfl⟩
  unfold pyNext
  exact wpAny_bind (wpAny_attempt (wpAny_callSpecial?_slot (name := Str.ofString "__next__") hT F.slot_zip_next
    (wpAny_call_entry F.slot_zip_next hT F.entry_zip_next
      (zipK_item D hz hTI hTO h1 h2 hl1 hl2 hx hy fun h' a1 a2 a3 a4 a5 a6 a7 => wpAny_pure (hQ h' a1 a2 a3 a4 a5 a6 a7)) (F.args_zip_next_1 _))))
theorem pyNext_zipK_end {α β : SK} {z TI TO i1 i2 l1 l2 : Addr} {k1 k2 : Nat} {xs ys : Array Value} {a b : Value} {Q : Option Value → Shared → Prop} (hh : A.handled = none) (D : ZipApart z TI TO i1 i2 l1 l2)
    (hz : IsZip s.heap z TI TO .none) (hTI : IsPair s.heap TI (.ref i1) (.ref i2)) (hTO : IsPair s.heap TO a b)
    (h1 : α.it s.heap i1 l1 k1) (h2 : β.it s.heap i2 l2 k2) (hl1 : α.sq s.heap l1 xs) (hl2 : β.sq s.heap l2 ys) (hend : xs[k1]? = none ∨ ys[k2]? = none)
    (hQ : ∀ h', (∀ c o, c ≠ z → c ≠ TO → c ≠ i1 → c ≠ i2 → s.heap.get? c = some o → h'.get? c = some o) → Q none { s with heap := h' }) : wpAny (model prog w) A (pyNext (.ref z)) Q E s := by
  have hT : s.TypeIs (.ref z) "zip" := ⟨_, hz, rfl⟩
  unfold pyNext
  refine wpAny_bind (wpAny_attempt (wpAny_callSpecial?_slot (name := Str.ofString "__next__") hT F.slot_zip_next
    (wpAny_call_entry F.slot_zip_next hT F.entry_zip_next (zipK_end hh D hz hTI hTO h1 h2 hl1 hl2 hend fun h' e hk he => ?_) (F.args_zip_next_1 _))))
  obtain ⟨o, ho, hc⟩ := he
  refine wpAny_bind (wpAny_isInstance (T := "StopIteration") (b := true) ⟨o, ho, hc⟩ isSubtype_stop ?_)
  exact wpAny_pure (hQ _ hk)
end
abbrev zK1 (α : SK) (h : Heap) (l1 : Addr) : Heap := h.push { cls := .type α.cls, data := .fields #[.ref l1, .int 0 0] }
abbrev zK2 (α β : SK) (h : Heap) (l1 l2 : Addr) : Heap := (zK1 α h l1).push { cls := .type β.cls, data := .fields #[.ref l2, .int 0 0] }
abbrev zK3 (α β : SK) (h : Heap) (l1 l2 : Addr) : Heap := (zK2 α β h l1 l2).push { cls := .type "tuple", data := .seq #[.ref h.objs.size, .ref (zK1 α h l1).objs.size] }
abbrev zK4 (α β : SK) (h : Heap) (l1 l2 : Addr) : Heap := (zK3 α β h l1 l2).push { cls := .type "tuple", data := .seq #[.none, .none] }
abbrev zK5 (α β : SK) (h : Heap) (l1 l2 : Addr) : Heap := (zK4 α β h l1 l2).push { cls := .type "zip", data := .fields #[.none, .bool false, .bool false, .ref (zK2 α β h l1 l2).objs.size, .ref (zK3 α β h l1 l2).objs.size] }
theorem meets_zipK (α β : SK) (l1 l2 : Addr) (xs ys : Array Value) :
    Meets (Builtin.«zip.__new__» ⟨[.type "zip", .ref l1, .ref l2], []⟩) (fun _ R s => α.sq s.heap l1 xs ∧ β.sq s.heap l2 ys ∧
      R (.ok (.ret (.ref (zK4 α β s.heap l1 l2).objs.size))) { s with heap := zK5 α β s.heap l1 l2 }) :=
  .of_wp fun prog w A R s h => by
    obtain ⟨hp, g, d, tk, os⟩ := s
    obtain ⟨hl1, hl2, h⟩ := h
    have hsub := sub_zip
    cases α <;> cases β
    · have hL1 : Heap.IsList (Shared.heap ⟨hp, g, d, tk, os⟩) l1 xs := hl1
      have hL2 : Heap.IsList (Shared.heap ⟨hp.push { cls := .type "list_iterator", data := .fields #[.ref l1, .int 0 0] }, g, d, tk, os⟩) l2 ys := Heap.IsList.push hl2 _
      wp_walk using wpAny_pyIter_list hL1, wpAny_pyIter_list hL2
      exact ⟨_, rfl, h⟩
    · have hL1 : Heap.IsList (Shared.heap ⟨hp, g, d, tk, os⟩) l1 xs := hl1
      have hL2 : Heap.IsTuple (Shared.heap ⟨hp.push { cls := .type "list_iterator", data := .fields #[.ref l1, .int 0 0] }, g, d, tk, os⟩) l2 ys := Heap.IsTuple.push hl2 _
      wp_walk using wpAny_pyIter_list hL1, wpAny_pyIter_tuple hL2
      exact ⟨_, rfl, h⟩
    · have hL1 : Heap.IsTuple (Shared.heap ⟨hp, g, d, tk, os⟩) l1 xs := hl1
      have hL2 : Heap.IsList (Shared.heap ⟨hp.push { cls := .type "tuple_iterator", data := .fields #[.ref l1, .int 0 0] }, g, d, tk, os⟩) l2 ys := Heap.IsList.push hl2 _
      wp_walk using wpAny_pyIter_tuple hL1, wpAny_pyIter_list hL2
      exact ⟨_, rfl, h⟩
    · have hL1 : Heap.IsTuple (Shared.heap ⟨hp, g, d, tk, os⟩) l1 xs := hl1
      have hL2 : Heap.IsTuple (Shared.heap ⟨hp.push { cls := .type "tuple_iterator", data := .fields #[.ref l1, .int 0 0] }, g, d, tk, os⟩) l2 ys := Heap.IsTuple.push hl2 _
      wp_walk using wpAny_pyIter_tuple hL1, wpAny_pyIter_tuple hL2
      exact ⟨_, rfl, h⟩
theorem itNew {α : SK} {h : Heap} {a l : Addr} (e : h.get? a = some { cls := .type α.cls, data := .fields #[.ref l, .int 0 0] }) : α.it h a l 0 := by
  cases α
  · exact ⟨_, e, rfl, rfl⟩
  · exact ⟨_, e, rfl, rfl⟩
section
variable {prog : Program} {w : World} {A : Around} {E : Value → Shared → Prop} {s : Shared}
theorem call_zipK {α β : SK} {l1 l2 : Addr} {xs ys : Array Value} {Q : Value → Shared → Prop} (hl1 : α.sq s.heap l1 xs) (hl2 : β.sq s.heap l2 ys)
    (h : ∀ h', IsZip h' (s.heap.objs.size + 4) (s.heap.objs.size + 2) (s.heap.objs.size + 3) .none → IsPair h' (s.heap.objs.size + 2) (.ref s.heap.objs.size) (.ref (s.heap.objs.size + 1)) →
      IsPair h' (s.heap.objs.size + 3) .none .none → α.it h' s.heap.objs.size l1 0 → β.it h' (s.heap.objs.size + 1) l2 0 → h'.objs.size = s.heap.objs.size + 5 →
      (∀ c o, s.heap.get? c = some o → h'.get? c = some o) → Q (.ref (s.heap.objs.size + 4)) { s with heap := h' }) :
    wpAny (model prog w) A (call (.type "zip") [.ref l1, .ref l2]) Q E s := by
  refine callType_new F.called_zip (by decide) (F.typeCall_zip_2 _ _) (F.newCall_zip_2 _ _) (fun obj => F.args_object_init_3 obj _ _) F.entry_zip_new
    (meets_zipK α β l1 l2 xs ys) ⟨hl1, hl2, ?_⟩
  have z1 : (zK1 α s.heap l1).objs.size = s.heap.objs.size + 1 := Heap.size_push ..
  have z2 : (zK2 α β s.heap l1 l2).objs.size = s.heap.objs.size + 2 := by rw [Heap.size_push, z1]
  have z3 : (zK3 α β s.heap l1 l2).objs.size = s.heap.objs.size + 3 := by rw [Heap.size_push, z2]
  have z4 : (zK4 α β s.heap l1 l2).objs.size = s.heap.objs.size + 4 := by rw [Heap.size_push, z3]
  have z5 : (zK5 α β s.heap l1 l2).objs.size = s.heap.objs.size + 5 := by rw [Heap.size_push, z4]
  have g5 : (zK5 α β s.heap l1 l2).get? (zK4 α β s.heap l1 l2).objs.size = some _ := Heap.get?_push_size _ rfl
  have g4 : (zK5 α β s.heap l1 l2).get? (zK3 α β s.heap l1 l2).objs.size = some _ := Heap.get?_push_of_some _ (Heap.get?_push_size _ rfl)
  have g3 : (zK5 α β s.heap l1 l2).get? (zK2 α β s.heap l1 l2).objs.size = some _ := Heap.get?_push_of_some _ (Heap.get?_push_of_some _ (Heap.get?_push_size _ rfl))
  have g2 : (zK5 α β s.heap l1 l2).get? (zK1 α s.heap l1).objs.size = some _ := Heap.get?_push_of_some _ (Heap.get?_push_of_some _ (Heap.get?_push_of_some _ (Heap.get?_push_size _ rfl)))
  have g1 : (zK5 α β s.heap l1 l2).get? s.heap.objs.size = some _ := Heap.get?_push_of_some _ (Heap.get?_push_of_some _ (Heap.get?_push_of_some _ (Heap.get?_push_of_some _ (Heap.get?_push_size _ rfl))))
  show _ ∧ _
  rw [z2, z3, z4] at g5
  rw [z1, z2] at g3
  rw [z3] at g4
  rw [z1] at g2
  rw [z4]
  exact ⟨⟨_, g5, rfl⟩, h _ g5 g3 g4 (itNew g1) (itNew g2) z5 fun c o x =>
    Heap.get?_push_of_some _ (Heap.get?_push_of_some _ (Heap.get?_push_of_some _ (Heap.get?_push_of_some _ (Heap.get?_push_of_some _ x))))⟩
end
theorem SK.seq {X : Cx} {pins : List (Addr × Obj)} {σ : L2.St} {H : Hp} {s : Shared} (I : Inv X pins σ H s) {α : SK} {a : Addr} {xs : List V} (h : α.Sq X.K H a xs) : ∃ its : List Value, Vals xs its ∧ α.sq s.heap a its.toArray := by
  cases α
  · obtain ⟨its, rv, p, _⟩ := I.list h
    exact ⟨its, rv, p.isList⟩
  · obtain ⟨its, rv, p, _⟩ := I.tuple h
    exact ⟨its, rv, p⟩
theorem SK.inj {X : Cx} {pins : List (Addr × Obj)} {σ : L2.St} {H : Hp} {s : Shared} (I : Inv X pins σ H s) {α : SK} {a : Addr} {xs ys : List V} (h : α.Sq X.K H a xs) (g : α.Sq X.K H a ys) : xs = ys := by
  cases α
  · exact I.list_inj h g
  · exact I.tuple_inj h g
def ItzK (K : PySem.W.Frag) (α β : SK) (a b : Addr) : It :=
  ⟨fun i H => ∃ (xs ys : List V) (x y : V), α.Sq K H a xs ∧ β.Sq K H b ys ∧ xs[i]? = some x ∧ ys[i]? = some y,
    fun i H v H' => ∃ T x y, v = .ref T ∧ H T = none ∧ H' = upd H T (.tup [x, y]) ∧ (∀ xs, α.Sq K H a xs → xs[i]? = some x) ∧ ∀ ys, β.Sq K H b ys → ys[i]? = some y,
    fun i H => ∃ xs ys : List V, α.Sq K H a xs ∧ β.Sq K H b ys ∧ (xs.length ≤ i ∨ ys.length ≤ i)⟩
theorem turn_zipK {α β : SK} {P : Program} {w : World} {K : PySem.W.Frag} {elts : List Expr} {kk : Nat} {tpos : Pos} {a b z TI TO i1 i2 : Addr} (D : ZipApart z TI TO i1 i2 a b) :
    Turn P w K (.Tuple elts kk tpos) (ItzK K α β a b) [z, TI, TO, i1, i2] z (fun i h => IsZip h z TI TO .none ∧ IsPair h TI (.ref i1) (.ref i2) ∧ (∃ x y, IsPair h TO x y) ∧ α.it h i1 a i ∧ β.it h i2 b i) where
  mem := by simp
  obj := fun i h st c hc => by
    obtain ⟨hz, hTI, ⟨x, y, hTO⟩, hi1, hi2⟩ := st
    obtain ⟨o1, e1, d1⟩ := itOb hi1
    obtain ⟨o2, e2, d2⟩ := itOb hi2
    have e' : c = z ∨ c = TI ∨ c = TO ∨ c = i1 ∨ c = i2 := by simpa using hc
    rcases e' with q | q | q | q | q
    · rw [q]; exact ⟨_, hz, fun v q => nomatch q⟩
    · rw [q]; exact ⟨_, hTI, fun v q => nomatch q⟩
    · rw [q]; exact ⟨_, hTO, fun v q => nomatch q⟩
    · rw [q]; exact ⟨o1, e1, d1⟩
    · rw [q]; exact ⟨o2, e2, d2⟩
  keep := fun i h h' st k => by
    obtain ⟨hz, hTI, ⟨x, y, hTO⟩, h1, h2⟩ := st
    exact ⟨k z (by simp) _ hz, k TI (by simp) _ hTI, ⟨x, y, k TO (by simp) _ hTO⟩, itAt h1 fun o q => k i1 (by simp) o q, itAt h2 fun o q => k i2 (by simp) o q⟩
  item := by
    intro X hP hw hK hc i pins s σ H E I hf st hg
    subst hP hw hK
    obtain ⟨hz, hTI, ⟨x0, y0, hTO⟩, h1, h2⟩ := st
    obtain ⟨xs, ys, x, y, hqx, hqy, hx, hy⟩ := hg
    obtain ⟨its, rv, p⟩ := SK.seq I hqx
    obtain ⟨its2, rv2, p2⟩ := SK.seq I hqy
    obtain ⟨u, hu, ru⟩ := rv.get hx
    obtain ⟨u2, hu2, ru2⟩ := rv2.get hy
    have hzl : z < s.heap.objs.size := Heap.lt_size hz
    refine pyNext_zipK_item D hz hTI hTO h1 h2 p p2 (x := u) (y := u2) (by simpa using hu) (by simpa using hu2) fun h' z' TO' h1' h2' hT hsz hk => ?_
    refine ⟨_, rfl, wpAny_letOwnedTupleGo_zip (s := { s with heap := h' }) z' fun h'' z'' sb => ?_⟩
    have hT2 : h''.get? s.heap.objs.size = some { cls := .type "tuple", data := .seq #[u, u2] } := (sb.2 _ (Nat.ne_of_gt hzl)).trans hT
    have new : ObjOk X.prog X.w (upd H s.heap.objs.size (.tup [x, y])) h'' s.heap.objs.size (.tup [x, y]) :=
      ⟨by show 2 ≤ sizeLine; decide, [u, u2], .cons ru (.cons ru2 .nil), ⟨_, hT2, rfl, _, rfl⟩⟩
    have I1 : Inv X pins σ (upd H s.heap.objs.size (.tup [x, y])) { s with heap := h'' } :=
      I.turnedNew (t' := s.toks) (ch := [z, TI, TO, i1, i2]) (fun c o hb q => (sb.2 c (fun q' => hb (by simp [q']))).trans (hk c o (fun q' => hb (by simp [q'])) (fun q' => hb (by simp [q'])) (fun q' => hb (by simp [q'])) (fun q' => hb (by simp [q'])) q)) hf (Nat.le_refl _) new
    refine ⟨.ref s.heap.objs.size, _, I1, rfl, ⟨_, x, y, rfl, I.hok.fresh (Nat.le_refl _), rfl, fun l hl => by rw [SK.inj I hl hqx]; exact hx, fun l hl => by rw [SK.inj I hl hqy]; exact hy⟩, ⟨z'', ?_, ⟨u, u2, ?_⟩, ?_, ?_⟩, fun c hcm => ?_⟩
    · exact (sb.2 _ D.TIz).trans (hk _ _ D.TIz D.TITO D.TIi1 D.TIi2 hTI)
    · exact (sb.2 _ D.TOz).trans TO'
    · exact itAt h1' fun o q => (sb.2 _ D.i1z).trans q
    · exact itAt h2' fun o q => (sb.2 _ D.i2z).trans q
    · have hlt : c < s.heap.objs.size := by
        have e' : c = z ∨ c = TI ∨ c = TO ∨ c = i1 ∨ c = i2 := by simpa using hcm
        rcases e' with q | q | q | q | q
        · rw [q]; exact hzl
        · rw [q]; exact Heap.lt_size hTI
        · rw [q]; exact Heap.lt_size hTO
        · rw [q]; exact itLt h1
        · rw [q]; exact itLt h2
      rw [upd_ne (Nat.ne_of_lt hlt)]
      exact (hf c hcm).1
  done := by
    intro X hP hw hK hc i pins s σ H E I hf st hg
    subst hP hw hK
    obtain ⟨hz, hTI, ⟨x0, y0, hTO⟩, h1, h2⟩ := st
    obtain ⟨xs, ys, hqx, hqy, hend⟩ := hg
    obtain ⟨its, rv, p⟩ := SK.seq I hqx
    obtain ⟨its2, rv2, p2⟩ := SK.seq I hqy
    have l1 := rv.length
    have l2 := rv2.length
    have he : its.toArray[i]? = none ∨ its2.toArray[i]? = none := by
      rcases hend with q | q
      · exact .inl (by simp; omega)
      · exact .inr (by simp; omega)
    exact pyNext_zipK_end (I.ok.hd hc) D hz hTI hTO h1 h2 p p2 he fun h' hk => ⟨rfl, I.turnedL (t' := s.toks) (ch := [z, TI, TO, i1, i2]) (fun c o hb q =>
      hk c o (fun q' => hb (by simp [q'])) (fun q' => hb (by simp [q'])) (fun q' => hb (by simp [q'])) (fun q' => hb (by simp [q'])) q) hf⟩
  self := fun A i s Q E st h => wpAny_pyIter_zip st.1 h
def iZipK (K : PySem.W.Frag) (ta : TA) : TI := fun σ H R => ta σ H fun vs H1 => ∃ α β a b xs ys, vs = [.ref a, .ref b] ∧ SK.Sq K α H1 a xs ∧ SK.Sq K β H1 b ys ∧ R (ItzK K α β a b) H1
theorem pi_zipK {X : Cx} {e e2 : Expr} {ta : TA} {p pos tpos : Pos} {elts : List Expr} {kk : Nat} (hg : Gl X "zip") (hm : X.mg "zip" = none) (ha : PA X [e, e2] ta)
    (hs : starEach [e, e2] X.env = (false, eval e X.env) :: starEach [e2] X.env) (hpl : (backTo pos (starEach [e2] X.env)).any (·.1) = false) :
    PI X (.Tuple elts kk tpos) (.Call (.Name "zip" p) [e, e2] [] pos) (iZipK X.K ta) := by
  refine ⟨fun pins s σ H R I h => ?_⟩
  refine Call_ (ld_blt I hg hm PyProof.Rows.boot_zip (PyProof.Rows.callWith_type1 (thn (ha.run pos pins s σ H _ I h) fun us s1 ⟨vs, H1, I1, r1, q1⟩ => ?_) hs hpl))
  obtain ⟨α, β, a, b, xs, ys, ex, hqx, hqy, q⟩ := q1
  subst ex
  cases r1 with
  | cons r rr =>
    cases rr with
    | cons r' rr =>
      cases rr
      cases r
      cases r'
      have fresh5 : ∀ c, c ∈ [s1.heap.objs.size + 4, s1.heap.objs.size + 2, s1.heap.objs.size + 3, s1.heap.objs.size, s1.heap.objs.size + 1] → FpOk X pins H1 c := fun c hcm => by
        have hle : s1.heap.objs.size ≤ c := by
          simp only [List.mem_cons, List.not_mem_nil, or_false] at hcm
          omega
        exact I1.fpOk hle (I1.hok.fresh hle)
      obtain ⟨its, rv, p1⟩ := SK.seq I1 hqx
      obtain ⟨its2, rv2, p2⟩ := SK.seq I1 hqy
      refine call_zipK p1 p2 fun h' hz hTI hTO h1 h2 hsz hk => wpAny_pyIter_zip hz ?_
      have I2 : Inv X pins σ H1 { s1 with heap := h' } := I1.kept (t' := s1.toks) hk
      exact ⟨s1.heap.objs.size + 4, [s1.heap.objs.size + 4, s1.heap.objs.size + 2, s1.heap.objs.size + 3, s1.heap.objs.size, s1.heap.objs.size + 1], _, _, H1, rfl, I2, turn_zipK (PySem.W.ktu_apart s1.heap.objs.size a b (sqLt p1) (sqLt p2)), ⟨hz, hTI, ⟨_, _, hTO⟩, h1, h2⟩, fresh5, q⟩
theorem zip_get : ∀ (xs ys : List D) (i : Nat) (x y : D), xs[i]? = some x → ys[i]? = some y → (zipItems xs ys)[i]? = some (.tuple [x, y])
  | x :: xs, y :: ys, 0, _, _, e1, e2 => by
    simp at e1 e2
    subst e1 e2
    rfl
  | _ :: xs, _ :: ys, i + 1, x, y, e1, e2 => by
    show (zipItems xs ys)[i]? = _
    exact zip_get xs ys i x y (by simpa using e1) (by simpa using e2)
  | [], _, i, _, _, e1, _ => by simp at e1
  | _ :: _, [], i, _, _, _, e2 => by simp at e2
theorem zip_len : ∀ (xs ys : List D), (zipItems xs ys).length = min xs.length ys.length
  | [], _ => by simp [zipItems]
  | _ :: _, [] => by simp [zipItems]
  | _ :: xs, _ :: ys => by
    show (zipItems xs ys).length + 1 = min (xs.length + 1) (ys.length + 1)
    rw [zip_len xs ys]
    omega
theorem sq_of {K : PySem.W.Frag} {H : Hp} {v : V} {x : D} {xs : List D} (r : Dp K H v x) (e : dSeq x = some xs) : ∃ α a vs, v = .ref a ∧ SK.Sq K α H a vs ∧ DpAll K H vs xs := by
  cases x with
  | list ys =>
    cases e
    cases r with
    | lst g1 g2 => exact ⟨.l, _, _, rfl, g1, g2⟩
  | tuple ys =>
    cases e
    cases r with
    | tup g1 g2 => exact ⟨.t, _, _, rfl, g1, g2⟩
  | _ => cases e
theorem Sq_mono {K : PySem.W.Frag} {H H' : Hp} (e : Same H H') {α : SK} {a : Addr} {xs : List V} (h : SK.Sq K α H a xs) : SK.Sq K α H' a xs := by
  cases α
  · exact seqL_mono e h
  · exact seqT_mono e h
section
variable {cl : Nat → Addr} {W' : WX} {F : Fs} {X : Cx} {a b : Expr} {ma mb : Ex} {pos : Pos}
theorem ri_zip {p tpos : Pos} {x : Str} {elts : List Expr} {kk : Nat} (hx : x = "zip") (hg : Gl X x) (hm : X.mg x = none) (ha : PEm cl W' F X a ma) (hb : PEm cl W' F X b mb) (hs : starEach [a, b] X.env = (false, eval a X.env) :: starEach [b] X.env) (hs2 : starEach [b] X.env = (false, eval b X.env) :: starEach [] X.env) :
    PIm cl W' F X (.Tuple elts kk tpos) (.Call (.Name x p) [a, b] [] pos) (.zip ma mb) := by
  subst hx
  refine weakI (pi_zipK hg hm (pa_cons ha (pa_cons hb pa_nil hs2) hs) hs (by rw [hs2]; rfl)) fun σ H R ⟨τ, S, φ, l, sr, h⟩ => ?_
  simp only [evI] at h
  refine ⟨τ, S, φ, l, sr, h.step fun w S1 φ1 v H1 _ n1 s1 r1 h1 => ⟨τ, S1, φ1, l.mono n1, s1, Out.step h1 fun u S2 φ2 v2 H2 _ n2 s2 r2 h2 => ?_⟩⟩
  have r1' := r1.mono n2
  cases w with
  | ref n => cases u <;> exact h2.elim
  | d x =>
    cases u with
    | ref n => exact h2.elim
    | d y =>
      dsimp only at h2
      cases qx : dSeq x with
      | none => rw [qx] at h2; exact h2.elim
      | some xs =>
        cases qy : dSeq y with
        | none => rw [qx, qy] at h2; exact h2.elim
        | some ys =>
          rw [qx, qy] at h2
          obtain ⟨α, a, vs, rfl, ga, da⟩ := sq_of (show Dp X.K (hid φ2 H2) v x from r1') qx
          obtain ⟨β, b, us, rfl, gb, db⟩ := sq_of (show Dp X.K (hid φ2 H2) v2 y from r2) qy
          refine ⟨α, β, a, b, vs, us, rfl, Sq_mono low ga, Sq_mono low gb, h2.now s2 fun φ3 H3 sm th i => ?_⟩
          have ga3 : SK.Sq X.K α H3 a vs := Sq_mono low (Sq_mono sm ga)
          have gb3 : SK.Sq X.K β H3 b us := Sq_mono low (Sq_mono sm gb)
          rw [zip_len]
          refine ⟨fun hi => ?_, fun hi => ⟨vs, us, ga3, gb3, ?_⟩⟩
          · obtain ⟨d1, e1⟩ : ∃ d, xs[i]? = some d := ⟨_, List.getElem?_eq_getElem (by omega)⟩
            obtain ⟨d2, e2⟩ : ∃ d, ys[i]? = some d := ⟨_, List.getElem?_eq_getElem (by omega)⟩
            obtain ⟨v1, hv1, rv1⟩ := dps_get (dps_mono sm da) e1
            obtain ⟨v2, hv2, rv2⟩ := dps_get (dps_mono sm db) e2
            refine ⟨⟨vs, us, v1, v2, ga3, gb3, hv1, hv2⟩, fun v' H' ⟨T, y1, y2, z1, z2, z3, z4, z5⟩ => ?_⟩
            have := z4 _ ga3
            rw [hv1] at this
            cases this
            have := z5 _ gb3
            rw [hv2] at this
            cases this
            subst z1 z3
            exact ⟨same_new z2, _, zip_get _ _ _ _ _ e1 e2, new_pair z2 th (.cons rv1 (.cons rv2 .nil))⟩
          · rw [dps_len da, dps_len db]
            omega
end
end Ft
namespace Ft
variable [Wd]
open PySem PySem.Spec L2
open PyProof.Rows hiding St
section
variable {cl : Nat → Addr} {W' : WX} {F : Fs} {X : Cx} {a b c : Expr} {ma mb mc : Ex} {pos : Pos}
theorem r_dz : PEm cl W' F X (.Dict [] [] pos) .dz := weak pe_dnewK fun σ H Q ⟨τ, S, φ, l, sr, h⟩ => by
  simp only [ev] at h
  intro p hp
  obtain ⟨s', n⟩ := sr.keep (same_new (o := .dK []) hp)
  exact h φ _ _ n s' (.dic (hid_of (fun m => sr.there p m hp) upd_same))
theorem r_dnew : PEm cl W' F X (.Dict [] [] pos) .dnew := weak pe_dnewK fun σ H Q ⟨τ, S, φ, l, sr, h⟩ => by
  simp only [ev] at h
  intro p hp
  obtain ⟨s', n⟩ := sr.push hp (o := .dK []) (ob := .mp []) ⟨fun m => sr.fzt p m hp, .inl ⟨[], upd_same, .nil⟩⟩
  refine h (φ.push p) _ _ n s' ⟨p, ?_, rfl⟩
  show (φ.at_ ++ [p])[S.length]? = some p
  rw [← sr.len]
  simp
theorem r_rlst {es : List Expr} {ms : Exs} (ha : PAm cl W' F X es ms) : PEm cl W' F X (.List es pos) (.rlst ms) := weak (pe_lst ha) fun σ H Q ⟨τ, S, φ, l, sr, h⟩ => by
  simp only [ev] at h
  refine ⟨τ, S, φ, l, sr, h.step fun ws S1 φ1 vs H1 _ n1 s1 r1 h1 => ?_⟩
  split at h1
  · refine ⟨by rw [← r1.len]; assumption, fun p hp => ?_⟩
    obtain ⟨s', n⟩ := s1.push hp (o := .lst vs) (ob := .rl ws) ⟨fun m => s1.fzt p m hp, vs, upd_same, r1.monog (WR.monog (push_same s1 hp) fun _ _ e => at_app e)⟩
    refine h1 (φ1.push p) _ _ n s' ⟨p, ?_, rfl⟩
    show (φ1.at_ ++ [p])[S1.length]? = some p
    rw [← s1.len]
    simp
  · exact h1.elim
theorem r_rtup {es : List Expr} {ms : Exs} {x1 : Nat} (ha : PAm cl W' F X es ms) : PEm cl W' F X (.Tuple es x1 pos) (.rtup ms) := weak (pe_tup ha) fun σ H Q ⟨τ, S, φ, l, sr, h⟩ => by
  simp only [ev] at h
  refine ⟨τ, S, φ, l, sr, h.step fun ws S1 φ1 vs H1 _ n1 s1 r1 h1 => ?_⟩
  split at h1
  · refine ⟨by rw [← r1.len]; assumption, fun p hp => ?_⟩
    obtain ⟨s', n⟩ := s1.push hp (o := .tup vs) (ob := .rt ws) ⟨fun m => s1.fzt p m hp, vs, upd_same, r1.monog (WR.monog (push_same s1 hp) fun _ _ e => at_app e)⟩
    refine h1 (φ1.push p) _ _ n s' ⟨p, ?_, rfl⟩
    show (φ1.at_ ++ [p])[S1.length]? = some p
    rw [← s1.len]
    simp
  · exact h1.elim
/-- an element -/
theorem sub_read {φ : Ms} {H : Hp} {S : Sto} {w u z : W} {v v2 : V} {Q : VK} (s : SR X.K φ H S) (r1 : WR X.K φ H w v) (r2 : WR X.K φ H u v2) (e : subW S w u = some z) (k : ∀ v H', Same H H' → WR X.K φ H' z v → Q v H') : rIx X.K v v2 H Q ∨ rMg X.K v v2 H Q := by
  have dat : ∀ {x y z : D}, dSub x y = some z → (∀ v H', Same H H' → DR X.K φ H' v z → Q v H') → WR X.K φ H (.d y) v2 → (Dp X.K (hid φ H) v x ∨ ∃ p vs xs, v = .ref p ∧ x = .list xs ∧ H p = some (.lst vs) ∧ DRs X.K φ H vs xs) → rIx X.K v v2 H Q := by
    intro x y z ez k r2 hx
    have list : ∀ p vs xs, v = .ref p → x = .list xs → SqL X.K H p vs → DRs X.K φ H vs xs → rIx X.K v v2 H Q := fun p vs xs e1 e2 e3 e4 => by
      subst e1 e2
      cases r2 with
      | int i =>
        obtain ⟨u, e5, r5⟩ := dps_at e4 (show atI xs i = some z from ez)
        exact .inl ⟨p, vs, i, u, rfl, rfl, e3, e5, k u H (Same.refl _) r5⟩
      | _ => cases ez
    rcases hx with d | ⟨p, vs, xs, e1, e2, e3, e4⟩
    · cases d with
      | lst g1 g2 => exact list _ _ _ rfl rfl (seqL_mono low g1) g2
      | tup g1 g2 =>
        cases r2 with
        | int i =>
          obtain ⟨u, e5, r5⟩ := dps_at g2 (show atI _ i = some z from ez)
          exact .inr (.inl ⟨_, _, i, u, rfl, rfl, seqT_mono low g1, e5, k u H (Same.refl _) r5⟩)
        | _ => cases ez
      | str t =>
        cases r2 with
        | int i =>
          have ez : (if t.length ≤ sizeLine then (atI t.cps.toList i).map fun c => PyData.str ⟨#[c]⟩ else none) = some z := ez
          split at ez
          · cases qc : atI t.cps.toList i with
            | none => rw [qc] at ez; cases ez
            | some c =>
              rw [qc] at ez
              cases ez
              exact .inr (.inr ⟨t, i, c, rfl, rfl, by assumption, qc, k _ H (Same.refl _) (.str _)⟩)
          · cases ez
        | _ => cases ez
      | _ => cases r2 <;> cases ez
    · exact list p vs xs e1 e2 (.inl (.inl e3)) e4
  cases w with
  | d x =>
    cases u with
    | ref n => cases e
    | d y =>
      obtain ⟨z', e1, rfl⟩ := Option.map_eq_some_iff.mp (show (dSub x y).map W.d = some z from e)
      exact .inl (dat e1 k r2 (.inl r1))
  | ref n =>
    obtain ⟨p, ep, rfl⟩ := r1
    unfold subW at e
    dsimp only at e
    cases q : S[n]? with
    | none => rw [q] at e; cases u <;> cases e
    | some ob =>
      rw [q] at e
      have zz := s.at_ n ob p q ep
      cases u with
      | ref m => cases ob <;> cases e
      | d y =>
        cases ob with
        | dl xs =>
          obtain ⟨z', e1, rfl⟩ := Option.map_eq_some_iff.mp (show (dSub (.list xs) y).map W.d = some z from e)
          obtain ⟨_, vs, e3, e4⟩ := zz
          exact .inl (dat e1 k r2 (.inr ⟨p, vs, xs, rfl, rfl, e3, e4⟩))
        | fz xs =>
          obtain ⟨z', e1, rfl⟩ := Option.map_eq_some_iff.mp (show (dSub (.list xs) y).map W.d = some z from e)
          obtain ⟨_, vs, e3, e4⟩ := zz
          exact .inl (dat e1 k r2 (.inr ⟨p, vs, xs, rfl, rfl, e3, e4⟩))
        | rl ws =>
          obtain ⟨_, vs, e3, e4⟩ := zz
          cases y with
          | int i =>
            obtain rfl := int_of r2
            obtain ⟨v', e5, r5⟩ := wrs_at e4 (show atI ws i = some z from e)
            exact .inl (.inl ⟨p, vs, i, v', rfl, rfl, .inl (.inl e3), e5, k v' H (Same.refl _) r5⟩)
          | _ => cases e
        | mp kvs =>
          obtain ⟨kk, e1, e2⟩ := Option.bind_eq_some_iff.mp (show ((keyM y).bind fun k => if okM kvs k = true then atM kvs k else none) = some z from e)
          split at e2
          · rename_i ok
            exact .inr ⟨φ, p, kvs, y, kk, z, rfl, zz.2, r2, e1, ok, e2, fun v rv => k v H (Same.refl _) rv⟩
          · cases e2
        | _ => cases e
theorem r_subR (hu : X.A.units + 50 < cLine) (hw : X.w = Wd.w) (ha : PEm cl W' F X a ma) (hb : PEm cl W' F X b mb) (hs : PlainIx b) : PEm cl W' F X (.Subscript a b pos) (.subR ma mb) := weak (pe_ix (ix_seq.or (ix_mp hu hw)) ha hb hs) fun σ H Q ⟨τ, S, φ, l, sr, h⟩ => by
  simp only [ev] at h
  refine ⟨τ, S, φ, l, sr, h.step fun w S1 φ1 v H1 _ n1 s1 r1 h1 => ?_⟩
  refine ⟨τ, S1, φ1, l.mono n1, s1, h1.step fun u S2 φ2 v2 H2 _ n2 s2 r2 h2 => ?_⟩
  obtain ⟨z, e, k⟩ := Out.optW h2 s2
  exact sub_read s2 (r1.mono n2) r2 e k
/-- k not in d -/
theorem r_ninD (hu : X.A.units + 50 < cLine) (hw : X.w = Wd.w) (ha : PEm cl W' F X a ma) (hb : PEm cl W' F X b mb) (hm : behindInMarks .NotIn b = false) : PEm cl W' F X (.Compare a [.NotIn] [b] pos) (.not (.inD ma mb)) := by
  refine ⟨fun pins s σ H Q I ⟨τ, S, φ, l, sr, h⟩ => ?_⟩
  simp only [ev] at h
  have hop : OpR X (compareOp .NotIn) (fun x y H Q => (∃ (a : Addr) (o : Option V), y = V.ref a ∧ DGet H a x o ∧ Q (.bl (!o.isSome)) H) ∨ rMnin X.K x y H Q) := OpR.or (fun pins s σ H x y v u Q I rx ry ⟨a, o, e, g, q⟩ => by
    subst e
    cases ry
    exact d_notIn (by omega) I g rx fun s' I' => ⟨.bl (!o.isSome), H, I', rfl, q⟩) (op_ninM hu hw)
  refine (pe_cmpR hop ha hb hm).run pins s σ H Q I ?_
  rw [Res.assoc] at h
  refine ⟨τ, S, φ, l, sr, h.step fun w S1 φ1 v H1 _ n1 s1 r1 h1 => ?_⟩
  rw [Res.assoc] at h1
  refine ⟨τ, S1, φ1, l.mono n1, s1, h1.step fun u S2 φ2 v2 H2 _ n2 s2 r2 h2 => ?_⟩
  cases q : hasD S2 w u with
  | none => rw [q] at h2; exact h2.elim
  | some c =>
    rw [q] at h2
    have fin : Q (.bl (!c)) H2 := h2 φ2 (.bl (!c)) H2 Nx.refl s2 (.bl (!c))
    rcases hasD_at (φ1 := φ2) (H1 := H2) s2 (r1.mono n2) r2 q with ⟨a', o, e1, e2, e3⟩ | ⟨a', kvs, d, k, e1, e2, e3, e4, e5, e6⟩
    · exact .inl ⟨a', o, e1, e2, by rw [e3]; exact fin⟩
    · exact .inr ⟨φ2, a', kvs, d, k, e1, e2, e3, e4, e5, by rw [e6]; exact fin⟩
/-- a dict of the store -/
theorem dict_at {φ : Ms} {H : Hp} {S : Sto} {n : Nat} {v : V} {kvs : List (NestedKey × W)} (s : SR X.K φ H S) (r : WR X.K φ H (.ref n) v) (e : S[n]? = some (.mp kvs)) : ∃ p, v = .ref p ∧ φ.at_[n]? = some p ∧ MpR X.K φ H p kvs ∧ φ.has p := by
  obtain ⟨p, ep, rfl⟩ := r
  obtain ⟨h1, h2⟩ := mp_of s ep e
  exact ⟨p, rfl, ep, h1, h2⟩
/-- d.get(k) -/
theorem mp_dget {pins : List (Addr × Obj)} {σ : St} {H : Hp} {s : Shared} {φ : Ms} {a : Addr} {kvs : List (NestedKey × W)} {k : NestedKey} {y : V} {u : Value} {more : List Value} {A : Around} {E : Value → Shared → Prop} {Q : Value → Shared → Prop} (hu : A.units + 20 < cLine) (hw : X.w = Wd.w) (I : L2.Inv X pins σ H s) (h : MpR X.K φ H a kvs) {d : D} (r : DR X.K φ H y d) (ek : keyM d = some k) (ok : okM kvs k = true) (ru : RelV y u)
    (hm : more = [] ∨ ∃ x, more = [x])
    (q : ∀ u' s', L2.Inv X pins σ H s' → (match atM kvs k with
      | some w => ∃ v, RelV v u' ∧ WR X.K φ H w v
      | none => u' = more.headD .none) → Q u' s') : wpAny (model X.prog X.w) A (call (.builtin "dict.get") (.ref a :: u :: more)) Q E s := by
  obtain ⟨e1, e2, e3⟩ := keyM_data ek
  subst e1
  cases ht : isTup k with
  | true =>
    obtain ⟨hs, hl, xs, dd, kr, _⟩ := mp_tup hw I h ok ht
    obtain ⟨b, rfl⟩ := key_tup ht r
    cases ru
    have z := kr.get k
    have fin : ∀ dflt, dflt = more.headD Value.none → ∀ s', L2.Inv X pins σ H s' → Q (((atKey xs k).map (·.2)).getD dflt) s' := fun dflt ed s' I' => q _ _ I' (by
      cases q1 : atKey xs k <;> cases q2 : atM kvs k <;> rw [q1, q2] at z <;> first | exact z.elim | exact ed | (obtain ⟨v, z1, z2⟩ := z; exact ⟨v, z1, z2⟩))
    have hr : (nestedKind X.prog X.w).room A.in1 := by show A.units + 1 + 8 < cLine; omega
    rcases hm with rfl | ⟨x, rfl⟩
    · exact call_meetsIn PySem.F.slot_dict_get dd.typeIs PySem.F.entry_dict_get (PySem.F.args_dict_get_2 _ _) (meetsH_dict_get (nestedKind X.prog X.w) a b hs) ⟨hr, k, xs, ⟨dp_nested I (dp_low r) rfl, e2⟩, dd, fin _ rfl _ (I.tok _)⟩
    · exact call_meetsIn PySem.F.slot_dict_get dd.typeIs PySem.F.entry_dict_get (PySem.F.args_dict_get_3 _ _ _) (meetsH_dict_get_default (nestedKind X.prog X.w) a b hs x) ⟨hr, k, xs, ⟨dp_nested I (dp_low r) rfl, e2⟩, dd, fin _ rfl _ (I.tok _)⟩
  | false =>
    obtain ⟨hs, hl, ks, vs, rel, dd, kr, _⟩ := mp_flat hw I h ok ht
    obtain ⟨j, rfl⟩ := e3 ht
    obtain rfl := key_flat r
    have z := kr.get j
    have z2 := rel.val j
    have fin : ∀ dflt, dflt = more.headD Value.none → ∀ s', L2.Inv X pins σ H s' → Q ((valueAt vs j).getD dflt) s' := fun dflt ed s' I' => q _ _ I' (by
      cases q1 : valV ks j <;> cases q2 : atM kvs (kN j) <;> cases q3 : valueAt vs j <;> rw [q1, q2] at z <;> rw [q1, q3] at z2 <;> first | exact z.elim | exact z2.elim | exact ed | exact ⟨_, z2, z⟩)
    rcases hm with rfl | ⟨x, rfl⟩
    · exact call_meetsIn PySem.F.slot_dict_get dd.typeIs PySem.F.entry_dict_get (PySem.F.args_dict_get_2 _ _) (meets_dict_get (mixKind X.prog X.w) a (kV_is ru) hs) ⟨_, dd.mapOf, fin _ rfl _ (I.tok _)⟩
    · exact call_meetsIn PySem.F.slot_dict_get dd.typeIs PySem.F.entry_dict_get (PySem.F.args_dict_get_3 _ _ _) (meets_dict_get_default (mixKind X.prog X.w) a (kV_is ru) hs x) ⟨_, dd.mapOf, fin _ rfl _ (I.tok _)⟩
theorem isMp_get {S : Sto} {w : W} (h : isMp S w = true) : ∃ n kvs, w = .ref n ∧ S[n]? = some (.mp kvs) := by
  unfold isMp at h
  split at h
  · rename_i n
    split at h
    · exact ⟨n, _, rfl, by assumption⟩
    · cases h
  · cases h
theorem r_dget2 {o e f : Expr} {mo me mf : Ex} {apos cpos : Pos} (hu : X.A.units + 50 < cLine) (hw : X.w = Wd.w) (ho : PEm cl W' F X o mo) (he : PEm cl W' F X e me) (hf : PEm cl W' F X f mf) (m : M2 X o "get" apos e f cpos) :
    PEm cl W' F X (.Call (.Attribute o "get" apos) [e, f] [] cpos) (.dget mo me mf) := by
  refine ⟨fun pins s σ H Q I ⟨τ, S, φ, l, sr, h⟩ => ?_⟩
  simp only [ev] at h
  refine wpAny_Call_method m.base m.few m.line PySem.F.plainAttrs_dict PySem.F.slot_dict_get PySem.F.type_dict_get (thn (ho.run pins s σ H (fun v H1 => ∃ n kvs S1 φ1, LR X.K φ1 H1 τ σ ∧ SR X.K φ1 H1 S1 ∧ WR X.K φ1 H1 (.ref n) v ∧ S1[n]? = some (.mp kvs) ∧ Out cl X.K W' (WR X.K) σ φ1 H1 ((ev F τ S1 me).bind fun u S2 => (ev F τ S2 mf).bind fun v S3 => opt ((mpAt S3 (.ref n) u).map fun p => (atM p.2.1 p.2.2).getD v) S3) Q) I
    ⟨τ, S, φ, l, sr, h.step fun w S1 φ1 v H1 _ n1 s1 r1 h1 => ?_⟩) fun u0 s1 ⟨v, H1, I1, rx, n, kvs, S1, φ1, l1, sr1, r1, e1, h1⟩ => ?_)
  · by_cases c : isMp S1 w = true
    · rw [if_pos c] at h1
      obtain ⟨n, kvs, rfl, e1⟩ := isMp_get c
      exact ⟨n, kvs, S1, φ1, l.mono n1, s1, r1, e1, h1⟩
    · rw [if_neg c] at h1
      exact h1.elim
  obtain ⟨p, rfl, ep, hm, _⟩ := dict_at sr1 r1 e1
  obtain rfl : u0 = Value.ref p := rx
  obtain ⟨t1, t2⟩ := mp_is hw I1 hm
  refine ⟨t1, t2, ?_⟩
  rw [m.trees]
  refine Calls.callWith_builtin rfl (Calls.evalArgs_plain (Calls.spliced_cons (thn (he.run pins s1 σ H1 (fun v2 H2 => ∃ u S2 φ2, LR X.K φ2 H2 τ σ ∧ SR X.K φ2 H2 S2 ∧ WR X.K φ2 H2 (.ref n) (.ref p) ∧ WR X.K φ2 H2 u v2 ∧ Out cl X.K W' (WR X.K) σ φ2 H2 ((ev F τ S2 mf).bind fun v S3 => opt ((mpAt S3 (.ref n) u).map fun p => (atM p.2.1 p.2.2).getD v) S3) Q) I1
    ⟨τ, S1, φ1, l1, sr1, h1.step fun u S2 φ2 v2 H2 _ n2 s2 r2 h2 => ⟨u, S2, φ2, l1.mono n2, s2, r1.mono n2, r2, h2⟩⟩) fun iv s2 ⟨v2, H2, I2, ry, u, S2, φ2, l2, sr2, r12, r2, h2⟩ =>
    Calls.spliced_cons (thn (hf.run pins s2 σ H2 (fun v3 H3 => ∃ w3 S3 φ3, SR X.K φ3 H3 S3 ∧ WR X.K φ3 H3 (.ref n) (.ref p) ∧ WR X.K φ3 H3 u v2 ∧ WR X.K φ3 H3 w3 v3 ∧ Out cl X.K W' (WR X.K) σ φ3 H3 (opt ((mpAt S3 (.ref n) u).map fun p => (atM p.2.1 p.2.2).getD w3) S3) Q) I2
    ⟨τ, S2, φ2, l2, sr2, h2.step fun w3 S3 φ3 v3 H3 _ n3 s3 r3 h3 => ⟨w3, S3, φ3, s3, r12.mono n3, r2.mono n3, r3, h3⟩⟩) fun fv s3 ⟨v3, H3, I3, rz, w3, S3, φ3, sr3, r13, r23, r3, h3⟩ => Calls.spliced_nil ?_))))
  obtain ⟨z, e3, k⟩ := Out.optW h3 sr3
  obtain ⟨q, eq, rfl⟩ := Option.map_eq_some_iff.mp e3
  obtain ⟨d, d1, rfl, d3, d4, d5⟩ := mpAt_get eq
  cases d1
  obtain ⟨p', e4, ep', hm', _⟩ := dict_at sr3 r13 d3
  cases e4
  refine mp_dget (by omega) hw I3 hm' r23 d4 d5 ry (.inr ⟨fv, rfl⟩) fun u' s' I' hq => ?_
  cases q2 : atM q.2.1 q.2.2 with
  | some w =>
    rw [q2] at hq k
    obtain ⟨v', z1, z2⟩ := hq
    exact ⟨v', H3, I', z1, k v' H3 (Same.refl _) z2⟩
  | none =>
    rw [q2] at hq k
    obtain rfl : u' = fv := hq
    exact ⟨v3, H3, I', rz, k v3 H3 (Same.refl _) r3⟩
/-- d.get(k) -/
theorem r_dget1 {o e : Expr} {mo me : Ex} {apos cpos : Pos} (hu : X.A.units + 50 < cLine) (hw : X.w = Wd.w) (ho : PEm cl W' F X o mo) (he : PEm cl W' F X e me) (m : M1 X o "get" apos e cpos) :
    PEm cl W' F X (.Call (.Attribute o "get" apos) [e] [] cpos) (.dget mo me (.c .none)) := by
  refine ⟨fun pins s σ H Q I ⟨τ, S, φ, l, sr, h⟩ => ?_⟩
  simp only [ev, Res.bind_ok] at h
  refine wpAny_Call_method m.base m.few m.line PySem.F.plainAttrs_dict PySem.F.slot_dict_get PySem.F.type_dict_get (thn (ho.run pins s σ H (fun v H1 => ∃ n kvs S1 φ1, LR X.K φ1 H1 τ σ ∧ SR X.K φ1 H1 S1 ∧ WR X.K φ1 H1 (.ref n) v ∧ S1[n]? = some (.mp kvs) ∧ Out cl X.K W' (WR X.K) σ φ1 H1 ((ev F τ S1 me).bind fun u S3 => opt ((mpAt S3 (.ref n) u).map fun p => (atM p.2.1 p.2.2).getD (.d .none)) S3) Q) I
    ⟨τ, S, φ, l, sr, h.step fun w S1 φ1 v H1 _ n1 s1 r1 h1 => ?_⟩) fun u0 s1 ⟨v, H1, I1, rx, n, kvs, S1, φ1, l1, sr1, r1, e1, h1⟩ => ?_)
  · by_cases c : isMp S1 w = true
    · rw [if_pos c] at h1
      obtain ⟨n, kvs, rfl, e1⟩ := isMp_get c
      exact ⟨n, kvs, S1, φ1, l.mono n1, s1, r1, e1, h1⟩
    · rw [if_neg c] at h1
      exact h1.elim
  obtain ⟨p, rfl, ep, hm, _⟩ := dict_at sr1 r1 e1
  obtain rfl : u0 = Value.ref p := rx
  obtain ⟨t1, t2⟩ := mp_is hw I1 hm
  refine ⟨t1, t2, ?_⟩
  rw [m.trees]
  refine Calls.callWith_builtin rfl (Calls.evalArgs_plain (Calls.spliced_cons (thn (he.run pins s1 σ H1 (fun v2 H3 => ∃ u S3 φ3, SR X.K φ3 H3 S3 ∧ WR X.K φ3 H3 (.ref n) (.ref p) ∧ WR X.K φ3 H3 u v2 ∧ Out cl X.K W' (WR X.K) σ φ3 H3 (opt ((mpAt S3 (.ref n) u).map fun p => (atM p.2.1 p.2.2).getD (.d .none)) S3) Q) I1
    ⟨τ, S1, φ1, l1, sr1, h1.step fun u S2 φ2 v2 H2 _ n2 s2 r2 h2 => ⟨u, S2, φ2, s2, r1.mono n2, r2, h2⟩⟩) fun iv s3 ⟨v2, H3, I3, ry, u, S3, φ3, sr3, r13, r23, h3⟩ => Calls.spliced_nil ?_)))
  obtain ⟨z, e3, k⟩ := Out.optW h3 sr3
  obtain ⟨q, eq, rfl⟩ := Option.map_eq_some_iff.mp e3
  obtain ⟨d, d1, rfl, d3, d4, d5⟩ := mpAt_get eq
  cases d1
  obtain ⟨p', e4, ep', hm', _⟩ := dict_at sr3 r13 d3
  cases e4
  refine mp_dget (by omega) hw I3 hm' r23 d4 d5 ry (.inl rfl) fun u' s' I' hq => ?_
  cases q2 : atM q.2.1 q.2.2 with
  | some w =>
    rw [q2] at hq k
    obtain ⟨v', z1, z2⟩ := hq
    exact ⟨v', H3, I', z1, k v' H3 (Same.refl _) z2⟩
  | none =>
    rw [q2] at hq k
    obtain rfl : u' = .none := hq
    exact ⟨.non, H3, I', rfl, k .non H3 (Same.refl _) .non⟩
/-- d.setdefault(k, x) -/
theorem mp_dset {pins : List (Addr × Obj)} {σ : St} {H : Hp} {s : Shared} {φ : Ms} {a : Addr} {kvs : List (NestedKey × W)} {k : NestedKey} {y vz : V} {u uz : Value} {wz : W} {A : Around} {E : Value → Shared → Prop} {Q : Value → Shared → Prop} (hu : A.units + 20 < cLine) (hw : X.w = Wd.w) (I : L2.Inv X pins σ H s) (ha : φ.has a) (h : MpR X.K φ H a kvs) {d : D} (r : DR X.K φ H y d) (ek : keyM d = some k) (ok : okM kvs k = true) (hl : kvs.length < sizeLine) (ru : RelV y u) (rz : RelV vz uz) (rw' : WR X.K φ H wz vz)
    (q1 : ∀ w u' v s', atM kvs k = some w → L2.Inv X pins σ H s' → RelV v u' → WR X.K φ H w v → Q u' s')
    (q2 : atM kvs k = none → ∀ o s', MpR X.K φ (upd H a o) a (putM kvs k wz) → L2.Inv X pins σ (upd H a o) s' → Q uz s') : wpAny (model X.prog X.w) A (call (.builtin "dict.setdefault") [.ref a, u, uz]) Q E s := by
  obtain ⟨e1, e2, e3⟩ := keyM_data ek
  subst e1
  have hp := putM_len kvs k wz
  cases ht : isTup k with
  | true =>
    obtain ⟨hs, _, xs, dd, kr, mu⟩ := mp_tup hw I h ok ht
    obtain ⟨b, rfl⟩ := key_tup ht r
    cases ru
    have z := kr.get k
    refine call_setdefault_heap (knd := nestedKind X.prog X.w) (hsz := by rw [kr.len]; omega) (by show A.units + 1 + 8 < cLine; omega) ⟨dp_nested I (dp_low r) rfl, e2⟩ hs dd (fun p hp => ?_) fun hn h' dd' hsb => ?_
    · rw [hp] at z
      cases q : atM kvs k with
      | none => rw [q] at z; exact z.elim
      | some w =>
        rw [q] at z
        obtain ⟨v, z1, z2⟩ := z
        exact q1 w _ v _ q (I.tok _) z1 z2
    · rw [hn] at z
      cases q : atM kvs k with
      | some w => rw [q] at z; exact z.elim
      | none =>
        refine q2 q (NK a (storedH xs k b uz)) _ ?_ ?_
        · refine .inr ⟨hs, by omega, _, upd_same, ?_⟩
          exact (kr.put r ht e2 rz rw').mono (WR.monog (up_same ha) fun _ _ z => z) (up_same ha)
        · obtain ⟨o, es, ep, g1, _⟩ := id dd'
          exact d_write I mu hsb ⟨o, g1⟩ (mp_new hw hs dd')
  | false =>
    obtain ⟨hs, _, ks, vs, rel, dd, kr, mu⟩ := mp_flat hw I h ok ht
    obtain ⟨j, rfl⟩ := e3 ht
    obtain rfl := key_flat r
    have z := kr.get j
    have z2 := rel.val j
    have hz : vs.length ≤ sizeLine := by rw [← rel.length, kr.len]; omega
    have hl2 : (putK ks j vz).length ≤ sizeLine := by have := length_putK ks j vz; have := kr.len; omega
    refine call_meetsIn PySem.F.slot_dict_setdefault dd.typeIs PySem.F.entry_dict_setdefault (PySem.F.args_dict_setdefault_3 _ _ _) (kt_meets_setdefault (mixKind X.prog X.w) a (kV_is ru) hs uz) ⟨vs, dd, hz, fun v hv => ?_, fun hn h' dd' hsb => ?_⟩
    · cases q : atM kvs (kN j) <;> cases q3 : valV ks j <;> rw [q3, q] at z <;> rw [q3, hv] at z2 <;> first | exact z.elim | exact z2.elim | exact q1 _ _ _ _ q (I.tok _) z2 z
    · cases q : atM kvs (kN j) <;> cases q3 : valV ks j <;> rw [q3, q] at z <;> rw [q3, hn] at z2 <;> first | exact z.elim | exact z2.elim | skip
      refine q2 q (.dK (putK ks j vz)) _ ?_ ?_
      · exact .inl ⟨_, upd_same, (kr.put rw').mono (WR.monog (up_same ha) fun _ _ z => z)⟩
      · have he : ∃ q, h'.get? a = some q := let ⟨q, _, _, hq, _⟩ := dd'; ⟨q, hq⟩
        exact d_write I mu hsb he (dk_new hl2 hs (rel.put j rz) dd')
theorem mp_dsetT {pins : List (Addr × Obj)} {σ : St} {H : Hp} {s : Shared} {φ : Ms} {a : Addr} {kvs : List (NestedKey × W)} {k : NestedKey} {y : V} {u uz : Value} {w : W} {A : Around} {E : Value → Shared → Prop} {Q : Value → Shared → Prop} (hu : A.units + 20 < cLine) (hw : X.w = Wd.w) (I : L2.Inv X pins σ H s) (h : MpR X.K φ H a kvs) {d : D} (r : DR X.K φ H y d) (ek : keyM d = some k) (ok : okM kvs k = true) (ru : RelV y u) (e : atM kvs k = some w)
    (q1 : ∀ u' v s', L2.Inv X pins σ H s' → RelV v u' → WR X.K φ H w v → Q u' s') : wpAny (model X.prog X.w) A (call (.builtin "dict.setdefault") [.ref a, u, uz]) Q E s := by
  obtain ⟨e1, e2, e3⟩ := keyM_data ek
  subst e1
  cases ht : isTup k with
  | true =>
    obtain ⟨hs, hl, xs, dd, kr, mu⟩ := mp_tup hw I h ok ht
    obtain ⟨b, rfl⟩ := key_tup ht r
    cases ru
    have z := kr.get k
    rw [e] at z
    refine call_setdefault_heap (knd := nestedKind X.prog X.w) (hsz := by rw [kr.len]; exact hl) (by show A.units + 1 + 8 < cLine; omega) ⟨dp_nested I (dp_low r) rfl, e2⟩ hs dd (fun p hp => ?_) fun hn h' dd' hsb => ?_
    · rw [hp] at z
      obtain ⟨v, z1, z2⟩ := z
      exact q1 _ v _ (I.tok _) z1 z2
    · rw [hn] at z
      exact z.elim
  | false =>
    obtain ⟨hs, hl, ks, vs, rel, dd, kr, mu⟩ := mp_flat hw I h ok ht
    obtain ⟨j, rfl⟩ := e3 ht
    obtain rfl := key_flat r
    have z := kr.get j
    have z2 := rel.val j
    rw [e] at z
    have hz : vs.length ≤ sizeLine := by rw [← rel.length, kr.len]; exact hl
    refine call_meetsIn PySem.F.slot_dict_setdefault dd.typeIs PySem.F.entry_dict_setdefault (PySem.F.args_dict_setdefault_3 _ _ _) (kt_meets_setdefault (mixKind X.prog X.w) a (kV_is ru) hs uz) ⟨vs, dd, hz, fun v hv => ?_, fun hn h' dd' hsb => ?_⟩
    · cases q3 : valV ks j <;> rw [q3] at z <;> rw [q3, hv] at z2 <;> first | exact z.elim | exact z2.elim | exact q1 _ _ _ (I.tok _) z2 z
    · cases q3 : valV ks j <;> rw [q3] at z <;> rw [q3, hn] at z2 <;> first | exact z.elim | exact z2.elim
def dsetR (S3 : Sto) (w u v : W) : Res W := match mpAt S3 w u with
    | some p => (match atM p.2.1 p.2.2 with
      | some z => .ok z S3
      | none => if p.2.1.length < sizeLine then .ok v (S3.set p.1 (.mp (putM p.2.1 p.2.2 v))) else .no)
    | none => .no
theorem r_dset {o e f : Expr} {mo me mf : Ex} {apos cpos : Pos} (hu : X.A.units + 50 < cLine) (hw : X.w = Wd.w) (ho : PEm cl W' F X o mo) (he : PEm cl W' F X e me) (hf : PEm cl W' F X f mf) (m : M2 X o "setdefault" apos e f cpos) :
    PEm cl W' F X (.Call (.Attribute o "setdefault" apos) [e, f] [] cpos) (.dset mo me mf) := by
  refine ⟨fun pins s σ H Q I ⟨τ, S, φ, l, sr, h⟩ => ?_⟩
  simp only [ev] at h
  have h : Out cl X.K W' (WR X.K) σ φ H ((ev F τ S mo).bind fun w S1 => if isMp S1 w = true then (ev F τ S1 me).bind fun u S2 => (ev F τ S2 mf).bind fun v S3 => dsetR S3 w u v else .no) Q := h
  refine wpAny_Call_method m.base m.few m.line PySem.F.plainAttrs_dict PySem.F.slot_dict_setdefault PySem.F.type_dict_setdefault (thn (ho.run pins s σ H (fun v H1 => ∃ n kvs S1 φ1, LR X.K φ1 H1 τ σ ∧ SR X.K φ1 H1 S1 ∧ WR X.K φ1 H1 (.ref n) v ∧ S1[n]? = some (.mp kvs) ∧ Out cl X.K W' (WR X.K) σ φ1 H1 ((ev F τ S1 me).bind fun u S2 => (ev F τ S2 mf).bind fun v S3 => dsetR S3 (.ref n) u v) Q) I
    ⟨τ, S, φ, l, sr, h.step fun w S1 φ1 v H1 _ n1 s1 r1 h1 => ?_⟩) fun u0 s1 ⟨v, H1, I1, rx, n, kvs, S1, φ1, l1, sr1, r1, e1, h1⟩ => ?_)
  · by_cases c : isMp S1 w = true
    · rw [if_pos c] at h1
      obtain ⟨n, kvs, rfl, e1⟩ := isMp_get c
      exact ⟨n, kvs, S1, φ1, l.mono n1, s1, r1, e1, h1⟩
    · rw [if_neg c] at h1
      exact h1.elim
  obtain ⟨p, rfl, ep, hm, _⟩ := dict_at sr1 r1 e1
  obtain rfl : u0 = Value.ref p := rx
  obtain ⟨t1, t2⟩ := mp_is hw I1 hm
  refine ⟨t1, t2, ?_⟩
  rw [m.trees]
  refine Calls.callWith_builtin rfl (Calls.evalArgs_plain (Calls.spliced_cons (thn (he.run pins s1 σ H1 (fun v2 H2 => ∃ u S2 φ2, LR X.K φ2 H2 τ σ ∧ SR X.K φ2 H2 S2 ∧ WR X.K φ2 H2 (.ref n) (.ref p) ∧ WR X.K φ2 H2 u v2 ∧ Out cl X.K W' (WR X.K) σ φ2 H2 ((ev F τ S2 mf).bind fun v S3 => dsetR S3 (.ref n) u v) Q) I1
    ⟨τ, S1, φ1, l1, sr1, h1.step fun u S2 φ2 v2 H2 _ n2 s2 r2 h2 => ⟨u, S2, φ2, l1.mono n2, s2, r1.mono n2, r2, h2⟩⟩) fun iv s2 ⟨v2, H2, I2, ry, u, S2, φ2, l2, sr2, r12, r2, h2⟩ =>
    Calls.spliced_cons (thn (hf.run pins s2 σ H2 (fun v3 H3 => ∃ w3 S3 φ3, SR X.K φ3 H3 S3 ∧ WR X.K φ3 H3 (.ref n) (.ref p) ∧ WR X.K φ3 H3 u v2 ∧ WR X.K φ3 H3 w3 v3 ∧ Out cl X.K W' (WR X.K) σ φ3 H3 (dsetR S3 (.ref n) u w3) Q) I2
    ⟨τ, S2, φ2, l2, sr2, h2.step fun w3 S3 φ3 v3 H3 _ n3 s3 r3 h3 => ⟨w3, S3, φ3, s3, r12.mono n3, r2.mono n3, r3, h3⟩⟩) fun fv s3 ⟨v3, H3, I3, rz, w3, S3, φ3, sr3, r13, r23, r3, h3⟩ => Calls.spliced_nil ?_))))
  unfold dsetR at h3
  cases eq : mpAt S3 (.ref n) u with
  | none => rw [eq] at h3; exact h3.elim
  | some q =>
    rw [eq] at h3
    dsimp only at h3
    obtain ⟨d, d1, rfl, d3, d4, d5⟩ := mpAt_get eq
    cases d1
    obtain ⟨p', e4, ep', hm', hh⟩ := dict_at sr3 r13 d3
    cases e4
    have nf := (sr3.at_ q.1 _ p d3 ep').1
    have hl : (∃ w, atM q.2.1 q.2.2 = some w) ∨ q.2.1.length < sizeLine := by
      cases e5 : atM q.2.1 q.2.2 with
      | some w => exact .inl ⟨w, rfl⟩
      | none =>
        rw [e5] at h3
        dsimp only at h3
        split at h3
        · exact .inr (by assumption)
        · exact h3.elim
    rcases hl with ⟨w, e5⟩ | hl
    · -- there
      rw [e5] at h3
      refine mp_dsetT (by omega) hw I3 hm' r23 d4 d5 ry e5 fun u' v s' I' z1 z2 => ⟨v, H3, I', z1, h3 φ3 v H3 Nx.refl sr3 z2⟩
    · refine mp_dset (by omega) hw I3 hh hm' r23 d4 d5 hl ry rz r3 (fun w u' v s' e5 I' z1 z2 => ?_) fun e5 o s' m' I' => ?_
      · rw [e5] at h3
        exact ⟨v, H3, I', z1, h3 φ3 v H3 Nx.refl sr3 z2⟩
      · rw [e5] at h3
        dsimp only at h3
        rw [if_pos hl] at h3
        obtain ⟨s4, n4⟩ := sr3.put ep' nf (o := o) (ob := .mp (putM q.2.1 q.2.2 w3)) ⟨nf, m'⟩
        exact ⟨v3, _, I', rz, h3 φ3 v3 _ n4 s4 (r3.mono n4)⟩
/-- list(d) -/
theorem r_dkeys {x : Str} {p : Pos} (hw : X.w = Wd.w) (hc : X.calm = true) (ha : PEm cl W' F X a ma) (hx : x = "list") (hg : Gl X x) (hm : X.mg x = none) (hs : starEach [a] X.env = [(false, eval a X.env)]) : PEm cl W' F X (.Call (.Name x p) [a] [] pos) (.dkeys ma) := by
  subst hx
  refine weak (pe_callTy (call_listM hw hc) hg hm (by decide +kernel) (pa_cons ha pa_nil hs) (by decide) (by decide) hs rfl) fun σ H Q ⟨τ, S, φ, l, sr, h⟩ => ?_
  simp only [ev] at h
  refine ⟨τ, S, φ, l, sr, h.step fun w S1 φ1 v H1 _ n1 s1 r1 h1 => ?_⟩
  cases w with
  | d x => exact h1.elim
  | ref n =>
    dsimp only at h1
    cases q : S1[n]? with
    | none => rw [q] at h1; exact h1.elim
    | some ob =>
      rw [q] at h1
      cases ob with
      | mp kvs =>
        obtain ⟨p, rfl, ep, hm, _⟩ := dict_at s1 r1 q
        dsimp only at h1
        split at h1
        · refine ⟨φ1, p, kvs, rfl, hm, fun p' vs hp hv => ?_⟩
          obtain ⟨s2, n2⟩ := s1.keep (same_new hp)
          exact h1 φ1 _ _ n2 s2 (.lst (SqL.of (hid_of (fun m => s1.there _ m hp) upd_same)) (dps_mono n2.same hv))
        · exact h1.elim
      | _ => exact False.elim h1
theorem r_dsort {x : Str} {p : Pos} (hw : X.w = Wd.w) (hc : X.calm = true) (ha : PEm cl W' F X a ma) (hx : x = "sorted") (hg : Gl X x) (hm : X.mg x = none) (hs : starEach [a] X.env = [(false, eval a X.env)]) : PEm cl W' F X (.Call (.Name x p) [a] [] pos) (.dsort ma) := by
  subst hx
  refine weak (pe_callB (call_sortM hw hc) hg hm (by decide +kernel) (pa_cons ha pa_nil hs) (by decide) (by decide) hs rfl) fun σ H Q ⟨τ, S, φ, l, sr, h⟩ => ?_
  simp only [ev] at h
  refine ⟨τ, S, φ, l, sr, h.step fun w S1 φ1 v H1 _ n1 s1 r1 h1 => ?_⟩
  cases w with
  | d x => exact h1.elim
  | ref n =>
    dsimp only at h1
    cases q : S1[n]? with
    | none => rw [q] at h1; exact h1.elim
    | some ob =>
      rw [q] at h1
      cases ob with
      | mp kvs =>
        obtain ⟨p, rfl, ep, hm, _⟩ := dict_at s1 r1 q
        dsimp only at h1
        cases e : sortM kvs with
        | none => rw [e] at h1; exact h1.elim
        | some ds =>
          rw [e] at h1
          refine ⟨φ1, p, kvs, ds, rfl, hm, e, fun p' vs hp hv => ?_⟩
          obtain ⟨s2, n2⟩ := s1.keep (same_new hp)
          exact h1 φ1 _ _ n2 s2 (.lst (SqL.of (hid_of (fun m => s1.there _ m hp) upd_same)) (dps_mono n2.same hv))
      | _ => exact False.elim h1
theorem same_empty {prog : Program} {w : World} {A : Around} {E : Value → Shared → Prop} {s : Shared} {nm : String} {a b : Addr} {oa ob : Obj} {es es' : Array DictEntry} {ep ep' : Nat} {Q : Bool → Shared → Prop} (ha : (a == sysModules) = false) (hb : (b == sysModules) = false)
    (hoa : s.heap.get? a = some oa) (hda : oa.data = .dict es ep) (hob : s.heap.get? b = some ob) (hdb : ob.data = .dict es' ep') (he : es'.size = 0) (h : Q (es.size == 0) s) : wpAny (model prog w) A (Builtin.Dict.samePairs nm a b) Q E s := by
  unfold Builtin.Dict.samePairs Builtin.Dict.showsAll
  rw [if_neg (show ¬ (a == sysModules) = true by rw [ha]; exact Bool.false_ne_true), if_neg (show ¬ (b == sysModules) = true by rw [hb]; exact Bool.false_ne_true)]
  refine wpAny_bind (wpAny_pure (wpAny_bind (wpAny_pure ?_)))
  refine wpAny_bind (wpAny_dictEntries hoa hda ?_)
  dsimp only
  refine wpAny_bind (wpAny_dictEntries hob hdb ?_)
  by_cases hsz : es.size = 0
  · rw [if_neg (by rw [hsz, he]; simp)]
    refine wpAny_bind (wpAny_dictEpoch hoa hda ?_)
    refine wpAny_bind ?_
    rw [Std.Legacy.Range.forIn_eq_forIn_range']
    simp only [Std.Legacy.Range.size, Nat.sub_zero, Nat.add_sub_cancel, Nat.div_one, hsz, List.range'_zero, List.forIn_nil]
    refine wpAny_pure (wpAny_pure ?_)
    rw [hsz] at h
    exact h
  · rw [if_pos (by rw [he]; simpa using hsz)]
    have hbf : (es.size == 0) = false := by simpa using hsz
    rw [hbf] at h
    exact wpAny_bind (wpAny_rule (wpAny_pure h))
theorem rc_empty {prog : Program} {w : World} {A : Around} {E : Value → Shared → Prop} {s : Shared} {a b : Addr} {oa ob : Obj} {es es' : Array DictEntry} {ep ep' : Nat} {Q : Value → Shared → Prop} (ha : (a == sysModules) = false) (hb : (b == sysModules) = false) (ca : oa.cls = .type "dict") (cb : ob.cls = .type "dict")
    (hoa : s.heap.get? a = some oa) (hda : oa.data = .dict es ep) (hob : s.heap.get? b = some ob) (hdb : ob.data = .dict es' ep') (he : es'.size = 0) (hu : A.units < cLine) (h : Q (.bool (es.size == 0)) s) : wpAny (model prog w) A (compareOp .Eq (.ref a) (.ref b)) Q E s := by
  have ta : s.TypeIs (.ref a) "dict" := ⟨oa, hoa, ca⟩
  have tb : s.TypeIs (.ref b) "dict" := ⟨ob, hob, cb⟩
  refine wpAny_richCompare_same_room (op := .Eq) ta tb PySem.F.slot_dict_eq (wpAny_call_entry PySem.F.slot_dict_eq ta PySem.F.entry_dict_eq ?_ (PySem.F.args_dict_eq_2 _ _)) hu
  show wpAny _ _ (Builtin.Dict.dictSlotArgs "__eq__" ⟨[.ref a, .ref b], []⟩ >>= _) _ _ s
  refine wpAny_bind ?_
  unfold Builtin.Dict.dictSlotArgs
  refine wpAny_bind (wpAny_notOrdered_dict ta ?_)
  show wpAny _ _ (pure (Value.ref a, Value.ref b)) _ _ s
  refine wpAny_pure ?_
  refine wpAny_bind (wpAny_isInstance (T := "dict") tb PySem.F.sub_dict_dict ?_)
  simp only [Bool.not_true, Bool.false_eq_true, if_false]
  refine wpAny_bind (wpAny_pure (wpAny_bind (wpAny_pure ?_)))
  refine wpAny_bind (same_empty ha hb hoa hda hob hdb he ?_)
  refine wpAny_pure ⟨_, rfl, ?_, ?_⟩
  · exact fun x => nomatch x
  · simpa using h
theorem rn_empty {prog : Program} {w : World} {A : Around} {E : Value → Shared → Prop} {s : Shared} {a b : Addr} {oa ob : Obj} {es es' : Array DictEntry} {ep ep' : Nat} {Q : Value → Shared → Prop} (ha : (a == sysModules) = false) (hb : (b == sysModules) = false) (ca : oa.cls = .type "dict") (cb : ob.cls = .type "dict")
    (hoa : s.heap.get? a = some oa) (hda : oa.data = .dict es ep) (hob : s.heap.get? b = some ob) (hdb : ob.data = .dict es' ep') (he : es'.size = 0) (hu : A.units < cLine) (h : Q (.bool (!(es.size == 0))) s) : wpAny (model prog w) A (compareOp .NotEq (.ref a) (.ref b)) Q E s := by
  have ta : s.TypeIs (.ref a) "dict" := ⟨oa, hoa, ca⟩
  have tb : s.TypeIs (.ref b) "dict" := ⟨ob, hob, cb⟩
  refine wpAny_richCompare_same_room (op := .NotEq) ta tb PySem.F.slot_dict_ne (wpAny_call_entry PySem.F.slot_dict_ne ta PySem.F.entry_dict_ne ?_ (PySem.F.args_dict_ne_2 _ _)) hu
  show wpAny _ _ (Builtin.Dict.dictSlotArgs "__ne__" ⟨[.ref a, .ref b], []⟩ >>= _) _ _ s
  refine wpAny_bind ?_
  unfold Builtin.Dict.dictSlotArgs
  refine wpAny_bind (wpAny_notOrdered_dict ta ?_)
  show wpAny _ _ (pure (Value.ref a, Value.ref b)) _ _ s
  refine wpAny_pure ?_
  refine wpAny_bind (wpAny_isInstance (T := "dict") tb PySem.F.sub_dict_dict ?_)
  simp only [Bool.not_true, Bool.false_eq_true, if_false]
  refine wpAny_bind (wpAny_pure (wpAny_bind (wpAny_pure ?_)))
  refine wpAny_bind (same_empty ha hb hoa hda hob hdb he ?_)
  refine wpAny_pure ⟨_, rfl, ?_, ?_⟩
  · exact fun x => nomatch x
  · simpa using h
/-- .. as comparisons of a dict of the store with a new one -/
def rEmp (K : PySem.W.Frag) (n : Bool) : R2 := fun x y H Q => ∃ (φ : Ms) (a b : Addr) (kvs : List (NestedKey × W)), x = .ref a ∧ y = .ref b ∧ MpR K φ H a kvs ∧ H b = some (.dK []) ∧ Q (.bl (kvs.isEmpty == n)) H
theorem size_emp (kvs : List (NestedKey × W)) : (kvs.length == 0) = kvs.isEmpty := by cases kvs <;> rfl
theorem op_empEq (hu : X.A.units + 50 < cLine) (hw : X.w = Wd.w) : OpR X (compareOp .Eq) (rEmp X.K true) := by
  intro pins s σ H x y u v Q I rx ry h
  obtain ⟨φ, a, b, kvs, rfl, rfl, hm, hb, q⟩ := h
  cases rx
  cases ry
  obtain ⟨oa, es, ep, g1, g2, g3, g4, g5, _⟩ := mp_obj hw I hm
  obtain ⟨z, hs, vs, rel, ob, es', ep', f1, f2, f3, f4, f5, _⟩ := dk_of I.hok hb
  cases rel
  have e0 : es'.size = 0 := by
    rw [← Array.length_toList, f5.length]
    rfl
  refine rc_empty g4 hs g2.1 f2.1 g1 g3 f1 f3 e0 (by omega) ⟨.bl _, H, I, rfl, ?_⟩
  rw [g5, size_emp]
  simpa using q
theorem op_empNe (hu : X.A.units + 50 < cLine) (hw : X.w = Wd.w) : OpR X (compareOp .NotEq) (rEmp X.K false) := by
  intro pins s σ H x y u v Q I rx ry h
  obtain ⟨φ, a, b, kvs, rfl, rfl, hm, hb, q⟩ := h
  cases rx
  cases ry
  obtain ⟨oa, es, ep, g1, g2, g3, g4, g5, _⟩ := mp_obj hw I hm
  obtain ⟨z, hs, vs, rel, ob, es', ep', f1, f2, f3, f4, f5, _⟩ := dk_of I.hok hb
  cases rel
  have e0 : es'.size = 0 := by
    rw [← Array.length_toList, f5.length]
    rfl
  refine rn_empty g4 hs g2.1 f2.1 g1 g3 f1 f3 e0 (by omega) ⟨.bl _, H, I, rfl, ?_⟩
  rw [g5, size_emp]
  simpa using q
def empOp : Bool → CmpOp
  | true => .Eq
  | false => .NotEq
theorem r_demp {n : Bool} {p2 : Pos} (hu : X.A.units + 50 < cLine) (hw : X.w = Wd.w) (ha : PEm cl W' F X a ma) (hm : behindInMarks (empOp n) (.Dict [] [] p2) = false) : PEm cl W' F X (.Compare a [empOp n] [.Dict [] [] p2] pos) (.demp n ma) := by
  have hop : OpR X (compareOp (empOp n)) (rEmp X.K n) := by
    cases n
    · exact op_empNe hu hw
    · exact op_empEq hu hw
  refine weak (pe_cmpR hop ha pe_dnewK hm) fun σ H Q ⟨τ, S, φ, l, sr, h⟩ => ?_
  simp only [ev] at h
  refine ⟨τ, S, φ, l, sr, h.step fun w S1 φ1 v H1 _ n1 s1 r1 h1 => ?_⟩
  intro p hp
  cases w with
  | d x => exact h1.elim
  | ref m =>
    dsimp only at h1
    cases q : S1[m]? with
    | none => rw [q] at h1; exact h1.elim
    | some ob =>
      rw [q] at h1
      cases ob with
      | mp kvs =>
        obtain ⟨s2, n2⟩ := s1.keep (same_new (o := .dK []) hp)
        obtain ⟨p', rfl, ep, hm', _⟩ := dict_at s2 (r1.mono n2) q
        exact ⟨φ1, p', p, kvs, rfl, rfl, hm', upd_same, h1 φ1 _ _ n2 s2 (.bl _)⟩
      | _ => exact False.elim h1
theorem r_tninD (hu : X.A.units + 50 < cLine) (hw : X.w = Wd.w) (ha : PEm cl W' F X a ma) (hb : PEm cl W' F X b mb) (hm : behindInMarks .NotIn b = false) : PTm cl W' F X (.Compare a [.NotIn] [b] pos) (.not (.e (.inD ma mb))) := by
  refine ⟨fun pins s σ H Q I ⟨τ, S, φ, l, sr, h⟩ => ?_⟩
  simp only [evT, ev, Res.assoc] at h
  have hop : OpR X (compareOp .NotIn) (fun x y H Q => (∃ (a : Addr) (o : Option V), y = V.ref a ∧ DGet H a x o ∧ Q (.bl (!o.isSome)) H) ∨ rMnin X.K x y H Q) := OpR.or (fun pins s σ H x y v u Q I rx ry ⟨a, o, e, g, q⟩ => by
    subst e
    cases ry
    exact d_notIn (by omega) I g rx fun s' I' => ⟨.bl (!o.isSome), H, I', rfl, q⟩) (op_ninM hu hw)
  refine (pt_cmpR hop ha hb hm).run pins s σ H Q I ?_
  refine ⟨τ, S, φ, l, sr, h.step fun w S1 φ1 v H1 _ n1 s1 r1 h1 => ?_⟩
  refine ⟨τ, S1, φ1, l.mono n1, s1, h1.step fun u S2 φ2 v2 H2 _ n2 s2 r2 h2 => ?_⟩
  cases q : hasD S2 w u with
  | none => rw [q] at h2; exact h2.elim
  | some c =>
    rw [q] at h2
    have h3 : Out cl X.K W' eqR σ φ2 H2 (.ok (!c) S2 : Res Bool) Q := h2
    have fin : Q (!c) H2 := h3 φ2 (!c) H2 Nx.refl s2 rfl
    rcases hasD_at (φ1 := φ2) (H1 := H2) s2 (r1.mono n2) r2 q with ⟨a', o, e1, e2, e3⟩ | ⟨a', kvs, d, k, e1, e2, e3, e4, e5, e6⟩
    · exact .inl ⟨a', o, e1, e2, !c, by rw [e3], fin⟩
    · exact .inr ⟨φ2, a', kvs, d, k, e1, e2, e3, e4, e5, !c, by rw [e6], fin⟩
theorem r_tdemp {n : Bool} {p2 : Pos} (hu : X.A.units + 50 < cLine) (hw : X.w = Wd.w) (ha : PEm cl W' F X a ma) (hm : behindInMarks (empOp n) (.Dict [] [] p2) = false) : PTm cl W' F X (.Compare a [empOp n] [.Dict [] [] p2] pos) (.e (.demp n ma)) := by
  have hop : OpR X (compareOp (empOp n)) (rEmp X.K n) := by
    cases n
    · exact op_empNe hu hw
    · exact op_empEq hu hw
  refine weakT (pt_cmpR hop ha pe_dnewK hm) fun σ H Q ⟨τ, S, φ, l, sr, h⟩ => ?_
  simp only [evT, ev, Res.assoc] at h
  refine ⟨τ, S, φ, l, sr, h.step fun w S1 φ1 v H1 _ n1 s1 r1 h1 => ?_⟩
  intro p hp
  cases w with
  | d x => exact h1.elim
  | ref m =>
    dsimp only at h1
    cases q : S1[m]? with
    | none => rw [q] at h1; exact h1.elim
    | some ob =>
      rw [q] at h1
      cases ob with
      | mp kvs =>
        obtain ⟨s2, n2⟩ := s1.keep (same_new (o := .dK []) hp)
        obtain ⟨p', rfl, ep, hm', _⟩ := dict_at s2 (r1.mono n2) q
        have h3 : Out cl X.K W' eqR σ φ1 H1 (.ok (kvs.isEmpty == n) S1 : Res Bool) Q := h1
        exact ⟨φ1, p', p, kvs, rfl, rfl, hm', upd_same, _, rfl, h3 φ1 _ _ n2 s2 rfl⟩
      | _ => exact False.elim h1
end
end Ft
namespace Ft
variable [Wd]
open PySem PySem.Spec L2 PyProof.Rows
section
variable {X : Cx}
/-- a new list -/
def OpF (X : Cx) (f : Value → Value → Sem Value) (g : D → D → Option D) : Prop := ∀ φ : Ms, OpR X f (fun x y H Q => ∃ d e zs, Dp X.K (hid φ H) x d ∧ Dp X.K (hid φ H) y e ∧ g d e = some (.list zs) ∧ ∀ p vs, H p = none → DpAll X.K (hid φ H) vs zs → Q (.ref p) (upd H p (.lst vs)))
theorem of_mul : OpF X (binaryOp .Mult) dMul' := fun φ pins s σ H x y v u Q I rx ry ⟨d, e, zs, hd, he, eg, k⟩ => by
  cases d <;> cases e <;> try (cases eg; done)
  · rename_i i j
    have eg : (if mulOk i j = true then some (PyData.int (i * j)) else none) = some (.list zs) := eg
    split at eg <;> cases eg
  · rename_i xs j
    have eg : (if -(2 ^ 63) ≤ j ∧ j < 2 ^ 63 ∧ xs.length * j.toNat ≤ sizeLine then some (PyData.list (repD xs j.toNat)) else none) = some (.list zs) := eg
    split at eg
    · rename_i c
      cases eg; cases he
      cases hd with
      | @lst p vs _ h1 h2 => exact op_repL pins s σ H _ _ v u Q I rx ry ⟨_, _, vs, rfl, rfl, seqL_mono low h1, c.1, c.2.1, by rw [dps_len h2]; exact c.2.2, fun p hp => k _ _ hp (dps_rep h2 _)⟩
    · cases eg
  · rename_i xs j
    have eg : (if xs.length ≤ 1000 ∧ xs ≠ [] ∧ 2 ≤ j ∧ j ≤ 1000 then some (PyData.tuple (repD xs j.toNat)) else none) = some (.list zs) := eg
    split at eg <;> cases eg
end
section
variable {cl : Nat → Addr} {F : Fs} {W' : WX} {X : Cx} {a b : Expr} {ma mb : Ex} {pos : Pos}
theorem r_nbin {op : Operator} {g : D → D → Option D} (ho : OpF X (binaryOp op) g) (ha : PEm cl W' F X a ma) (hb : PEm cl W' F X b mb) : PEm cl W' F X (.BinOp a op b pos) (.nbin g ma mb) := by
  refine ⟨fun pins s σ H Q I ⟨τ, S, φ, l, sr, h⟩ => ?_⟩
  simp only [ev] at h
  refine (pe_op (r := fun x y H Q => ∃ φ : Ms, ∃ d e zs, Dp X.K (hid φ H) x d ∧ Dp X.K (hid φ H) y e ∧ g d e = some (.list zs) ∧ ∀ p vs, H p = none → DpAll X.K (hid φ H) vs zs → Q (.ref p) (upd H p (.lst vs))) (fun pins s σ H x y v u Q I rx ry ⟨φ, z⟩ => ho φ pins s σ H x y v u Q I rx ry z) ha hb).run pins s σ H Q I ?_
  refine ⟨τ, S, φ, l, sr, h.step fun w S1 φ1 v H1 _ n1 s1 r1 h1 => ?_⟩
  refine ⟨τ, S1, φ1, l.mono n1, s1, h1.step fun u S2 φ2 v2 H2 _ n2 s2 r2 h2 => ?_⟩
  have r1' := r1.mono n2
  cases w with
  | ref n => exact (show False from h2).elim
  | d x =>
    cases u with
    | ref n => exact (show False from h2).elim
    | d y =>
      dsimp only at h2
      split at h2
      · rename_i zs ez
        split at h2
        · refine ⟨φ2, x, y, zs, r1', r2, ez, fun p vs hp rs => ?_⟩
          obtain ⟨s', n⟩ := s2.push hp (o := .lst vs) (ob := .dl zs) ⟨fun m => s2.fzt p m hp, vs, upd_same, dps_mono (push_same s2 hp) rs⟩
          refine h2 (φ2.push p) _ _ n s' ⟨p, ?_, rfl⟩
          show (φ2.at_ ++ [p])[S2.length]? = some p
          rw [List.getElem?_append_right (by rw [s2.len]; exact Nat.le_refl _), s2.len]
          simp
        · exact h2.elim
      · exact (show False from h2).elim
end
end Ft
namespace Ft
variable [Wd]
open PySem PySem.Spec L2
structure Fe where
  nm : Str
  ix : Nat
  np : Nat
  kws : List (Nat × List Str × List Nat)
structure Cc where
  N : List Str
  sc : Scope
  raw : Option Scope := none
  fns : List Fe
  glo : List (Str × D)
  free : List Str
  frz : List Str := []
  nls : List Str := []
  retn : Bool := false
  dcs : List Str := []
  rls : List Str := []
def idx : List Str → Str → Option Nat
  | [], _ => none
  | y :: r, x => if y = x then some 0 else (idx r x).map (· + 1)
theorem idx_at : ∀ {N : List Str} {x : Str} {i : Nat}, idx N x = some i → N[i]? = some x
  | y :: r, x, i, h => by
    unfold idx at h
    split at h
    · rename_i e
      cases h
      rw [e]; rfl
    · obtain ⟨j, h1, h2⟩ := Option.map_eq_some_iff.mp h
      subst h2
      simpa using idx_at h1
def okName (x : Str) : Bool := !(x == ("__debug__" : Str)) && !(x == ("__classdict__" : Str)) && !(x == ("__name__" : Str))
def Cc.seen (c : Cc) (x : Str) : Bool := match c.sc.names.lookup x with
  | some .local => true
  | some .cell => true
  | some .free => true
  | _ => false
def Cc.isG (c : Cc) (x : Str) : Bool := match c.sc.names.lookup x with
  | some .globalImplicit => true
  | _ => false
def Cc.isL (c : Cc) (x : Str) : Bool := match c.sc.names.lookup x with
  | some .local => true
  | _ => false
def Cc.isC (c : Cc) (x : Str) : Bool := match c.sc.names.lookup x with
  | some .cell => true
  | _ => false
def Cc.fnx (c : Cc) (x : Str) : Bool := match c.raw with
  | none => true
  | some s => s.names.lookup x == some .cell
/-- a def of the program -/
structure FnP (P : Program) (w : World) (K : PySem.W.Frag) (mg : Str → Option Value) (base : Heap) (cl : Nat → Addr) (F : Fs) (k : Nat) (e : Fe) : Prop where
  ok : ∃ (f : Addr) (fd : FuncData) (ps : List Str), mg e.nm = some (.ref f) ∧ PySem.W.keepIn K (.ref f) = true ∧ FnG P w K mg base k f fd ps (spI cl K e.np (F e.ix)) ∧ ps.length = e.np ∧
    (∀ (s : Shared) (us : List Value), K.In s.heap → us.length = e.np → BindsTo s fd ⟨us, []⟩ (ps.zip us)) ∧
    ∀ q ∈ e.kws, ∀ (s : Shared) (us uk : List Value), K.In s.heap → us.length = q.1 → uk.length = q.2.1.length → ∃ uz, pickA (us ++ uk) q.2.2 = some uz ∧ BindsTo s fd ⟨us, q.2.1.zip uk⟩ (ps.zip uz)
  len : ∀ wz S, wz.length ≠ e.np → F e.ix wz S = .no
/-- a module's constant -/
def tupW (K : PySem.W.Frag) (v : V) (d : D) : Prop := ∀ ds, d = .tuple ds → ∃ p o, v = .ref p ∧ K.lookup p = some o ∧ o.cls = .type "tuple" ∧ o.dict = none
def GlP (K : PySem.W.Frag) (mg : Str → Option Value) (g : Str × D) : Prop := ∃ u v, mg g.1 = some u ∧ RelV v u ∧ (∀ H, Dp K H v g.2) ∧ tupW K v g.2
structure Sit (cl : Nat → Addr) (F : Fs) (k : Nat) (c : Cc) (W' : WX) (X : Cx) : Prop where
  hw : X.w = Wd.w
  hN : X.N = c.N
  nd : c.N.Nodup
  hsc : X.env.scope = c.sc
  fun_ : c.sc.kind = .function
  calm : X.calm = true
  room : Room k X.A
  grd : X.A.guards = some []
  units : X.A.units + 200 < cLine
  tk : Takes X W'
  hp : c.raw = none → PassesOwn (model X.prog X.w) X.A X.env X.xe
  fns : ∀ e ∈ c.fns, FnP X.prog X.w X.K X.mg X.base cl F k e
  glo : ∀ g ∈ c.glo, GlP X.K X.mg g
  free : ∀ x ∈ c.free, X.mg x = none
  fnx : ∀ x, c.fnx x = true → X.fn x = true
section
variable {cl : Nat → Addr} {F : Fs} {k : Nat} {c : Cc} {W' : WX} {X : Cx}
theorem Sit.vis (S : Sit cl F k c W' X) {x : Str} (h : c.seen x = true) : Vis X.env.scope x := by
  unfold Cc.seen at h
  unfold Vis
  rw [S.hsc]
  split at h
  · exact .inl (by assumption)
  · exact .inr (.inl (by assumption))
  · exact .inr (.inr (by assumption))
  · cases h
theorem Sit.gl (S : Sit cl F k c W' X) {x : Str} (h : c.isG x = true) : Gl X x := by
  unfold Cc.isG at h
  show X.env.scope.names.lookup x = _
  rw [S.hsc]
  split at h
  · assumption
  · cases h
theorem Sit.loc (S : Sit cl F k c W' X) {x : Str} (h : c.isL x = true) : X.env.scope.names.lookup x = some .local := by
  unfold Cc.isL at h
  rw [S.hsc]
  split at h
  · assumption
  · cases h
theorem Sit.cell (S : Sit cl F k c W' X) {x : Str} (h : c.isC x = true) : X.env.scope.names.lookup x = some .cell := by
  unfold Cc.isC at h
  rw [S.hsc]
  split at h
  · assumption
  · cases h
/-- in a comprehension's block -/
def Cc.blk (c : Cc) (scope : Scope) : Cc := { c with sc := relS scope c.sc, raw := some scope }
theorem Sit.blk (S : Sit cl F k c W' X) {scope : Scope} (hk : scope.kind = .function) (s : Shared) (H : Hp) (C : Addr) (cs : List (Str × Addr)) (fp : List Addr) : Sit cl F k (c.blk scope) WF (X.blk s H scope (compEnvC scope cs C X.env) fp) where
  hw := S.hw
  hN := S.hN
  nd := S.nd
  hsc := by
    show relabel scope X.env = relS scope c.sc
    unfold relabel relS Env.kindOf
    rw [S.hsc]
  fun_ := hk
  calm := S.calm
  room := S.room
  grd := S.grd
  units := S.units
  tk := takes0
  hp := fun e => by cases e
  fns := S.fns
  glo := S.glo
  free := S.free
  fnx := fun x h => h
end
structure Rec where
  e : Cc → Expr → Option Ex
  es : Cc → List Expr → Option Exs
  ks : Cc → List Keyword → Option Exs
  t : Cc → Expr → Option Te
  w : Cc → Expr → Option Te
  i : Cc → Expr → Expr → Option Ie
  g : Cc → Expr → Option Tg
  gs : Cc → List Expr → Option Tg
  s : Cc → Stmt → Option Sm
  b : Cc → List Stmt → Option Bk
def Rec.none : Rec := ⟨fun _ _ => .none, fun _ _ => .none, fun _ _ => .none, fun _ _ => .none, fun _ _ => .none, fun _ _ _ => .none, fun _ _ => .none, fun _ _ => .none, fun _ _ => .none, fun _ _ => .none⟩
structure Snd (cl : Nat → Addr) (F : Fs) (k : Nat) (r : Rec) : Prop where
  e : ∀ c a m, r.e c a = some m → ∀ W' X, Sit cl F k c W' X → PEm cl W' F X a m
  es : ∀ c a m, r.es c a = some m → ∀ W' X, Sit cl F k c W' X → PAm cl W' F X a m
  ks : ∀ c a m, r.ks c a = some m → ∀ W' X, Sit cl F k c W' X → PKm cl W' F X a m ∧ ∀ {τ S ws S'}, evs F τ S m = .ok ws S' → ws.length = a.length
  t : ∀ c a m, r.t c a = some m → ∀ W' X, Sit cl F k c W' X → PTm cl W' F X a m
  w : ∀ c a m, r.w c a = some m → ∀ W' X, Sit cl F k c W' X → PWm cl W' F X a m
  i : ∀ c tg a m, r.i c tg a = some m → ∀ W' X, Sit cl F k c W' X → PIm cl W' F X tg a m
  g : ∀ c a m, r.g c a = some m → ∀ W' X, Sit cl F k c W' X → PGm F X a m
  gs : ∀ c a m, r.gs c a = some m → ∀ W' X, Sit cl F k c W' X → PGsm F X a m
  s : ∀ c a m, r.s c a = some m → c.raw = none → ∀ W' X, Sit cl F k c W' X → PSm cl W' F X a m
  b : ∀ c a m, r.b c a = some m → c.raw = none → ∀ W' X, Sit cl F k c W' X → PBm cl W' F X a m
def noStar : Expr → Bool
  | .Starred _ _ => false
  | _ => true
theorem star_not {e : Expr} {es : List Expr} {env : Env} (h : noStar e = true) : starEach (e :: es) env = (false, eval e env) :: starEach es env := by
  cases e <;> first | rfl | cases h
def noStars : List Expr → Bool
  | [] => true
  | e :: r => noStar e && noStars r
theorem stars_any {pos : Pos} {env : Env} : ∀ {es : List Expr}, noStars es = true → (backTo pos (starEach es env)).any (·.1) = false
  | [], _ => rfl
  | e :: r, h => by
    unfold noStars at h
    have h := Bool.and_eq_true_iff.mp h
    rw [star_not h.1]
    show (false || (backTo pos (starEach r env)).any (·.1)) = false
    rw [stars_any h.2]
    rfl
def opG : Operator → Option (D → D → Option D)
  | .Add => some dAdd
  | .Sub => some dSub'
  | .Mult => some dMul'
  | .FloorDiv => some dDiv
  | .Mod => some dMod
  | .Pow => some dPow
  | .LShift => some dShl
  | .RShift => some dShr
  | .BitAnd => some dAnd
  | .BitOr => some dOr
  | .BitXor => some dXor
  | _ => none
theorem opG_ok {op : Operator} {g : D → D → Option D} (h : opG op = some g) : OpD X (binaryOp op) g := by
  cases op <;> cases h
  · exact od_add
  · exact od_sub
  · exact od_mul
  · exact od_mod
  · exact od_pow
  · exact od_shl
  · exact od_shr
  · exact od_or
  · exact od_xor
  · exact od_and
  · exact od_div
def iopG : Operator → Option (D → D → Option D)
  | .Add => some iAdd
  | .Sub => some dSub'
  | _ => none
theorem iopG_ok {op : Operator} {g : D → D → Option D} (h : iopG op = some g) : OpD X (inplaceOp op) g := by
  cases op <;> cases h
  · exact iop_add'
  · exact iop_sub'
def cmpG : CmpOp → Option (D → D → Option D)
  | .Eq => some dEq
  | .NotEq => some dNe
  | .Lt => some dLt
  | .LtE => some dLe
  | .Gt => some dGt
  | .GtE => some dGe
  | .Is => some dIs
  | .IsNot => some dIsNot
  | .In => some dIn
  | .NotIn => some dNotIn
theorem cmpG_ok {op : CmpOp} {g : D → D → Option D} (hu : X.A.units + 200 < cLine) (h : cmpG op = some g) : OpD X (compareOp op) g := by
  cases op <;> cases h
  · exact od_eq (by omega)
  · exact od_ne (by omega)
  · exact od_lt
  · exact od_le (by omega)
  · exact od_gt
  · exact od_ge
  · exact od_is
  · exact od_isnot
  · exact od_in (by omega)
  · exact od_notin (by omega)
theorem leDs_boo {xs ys : List D} {z : D} (e : leDs xs ys = some z) : ∃ k, z = .bool k := by
  unfold leDs at e
  split at e
  · split at e
    · cases e
      exact ⟨_, rfl⟩
    · cases e
  · cases e
theorem cmpG_boo {op : CmpOp} {g : D → D → Option D} (h : cmpG op = some g) : Boo g := by
  intro x y z e
  cases op <;> cases h <;> cases x <;> cases y <;>
    first
    | (cases e; done)
    | (cases e; exact ⟨_, rfl⟩)
    | (simp only [dEq, dNe, dIn, dNotIn] at e; split at e <;> first | (cases e; done) | (cases e; exact ⟨_, rfl⟩))
    | exact leDs_boo e
    | skip
end Ft
namespace Ft
variable [Wd]
open PySem PySem.Spec L2
def Rec.view (r : Rec) (c : Cc) (a : Expr) : Option Ex := match a with
  | .Name x _ => if okName x = true ∧ c.seen x = true then (idx c.N x).map .var else r.e c a
  | _ => r.e c a
def stName (c : Cc) (x : Str) : Option Ex :=
  if okName x = true then
    if c.seen x = true then (idx c.N x).map fun i => if c.frz.contains x = true then .frz (.var i) else .var i
    else if c.isG x = true then (c.glo.lookup x).map .c else none
  else none
def stConst : Const → Option Ex
  | .none => some (.c .none)
  | .bool b => some (.c (.bool b))
  | .int i => some (.c (.int i))
  | .str s => some (.c (.str s))
  | _ => none
/-- a list of anything, a dict; an element of one -/
def rfy (c : Cc) : Expr → Bool
  | .Name x _ => c.dcs.contains x || c.rls.contains x
  | .Subscript (.Name x _) _ _ => c.dcs.contains x || c.rls.contains x
  | .Subscript (.Subscript (.Name x _) _ _) _ _ => c.dcs.contains x || c.rls.contains x
  | _ => false
def isDct (c : Cc) : Expr → Bool
  | .Name x _ => c.dcs.contains x && !c.rls.contains x
  | _ => false
def stSub (r : Rec) (c : Cc) (a i : Expr) : Option Ex := match i with
  | .Slice (some lo) (some hi) none _ => do
    let ma ← r.view c a
    let ml ← r.e c lo
    let mh ← r.e c hi
    pure (.slice ma ml mh)
  | .Slice (some lo) none none _ => do
    let ma ← r.view c a
    let ml ← r.e c lo
    pure (.sliceL ma ml)
  | .Slice none (some hi) none _ => do
    let ma ← r.view c a
    let mh ← r.e c hi
    pure (.sliceR ma mh)
  | .Slice none none none _ => do
    let ma ← r.view c a
    pure (.sliceN ma)
  | .Slice _ _ _ _ => none
  | i => do
    let ma ← r.view c a
    let mi ← r.e c i
    pure (if rfy c a = true then .subR ma mi else .sub ma mi)
def bltG (x : Str) : Option ((List D → Option D) × Bool × String) :=
  if x = "abs" then some (cAbs, false, "abs")
  else if x = "max" then some (cMax, false, "max")
  else if x = "min" then some (cMin, false, "min")
  else if x = "any" then some (cAny, false, "any")
  else if x = "all" then some (cAll, false, "all")
  else if x = "sum" then some (cSum, false, "sum")
  else if x = "sorted" then some (cSorted, false, "sorted")
  else if x = "repr" then some (cRepr, false, "repr")
  else if x = "divmod" then some (cDivmod, false, "divmod")
  else if x = "int" then some (cInt, true, "int")
  else if x = "tuple" then some (cTuple, true, "tuple")
  else if x = "list" then some (cList, true, "list")
  else if x = "str" then some (cStr, true, "str")
  else none
def tyG (x : Str) : Option Ty :=
  if x = "int" then some .int
  else if x = "bool" then some .bool
  else if x = "str" then some .str
  else if x = "list" then some .list
  else if x = "tuple" then some .tuple
  else if x = "dict" then some .dict
  else none
def Cc.blt (c : Cc) (x : Str) : Bool := c.isG x && c.free.contains x && okName x
def findF : List Fe → Str → Option Fe
  | [], _ => none
  | e :: r, x => if e.nm = x then some e else findF r x
def findK : List (Nat × List Str × List Nat) → Nat → List Str → Option (List Nat)
  | [], _, _ => none
  | (n, ks, p) :: r, m, js => if n = m ∧ ks = js then some p else findK r m js
def kwNames : List Keyword → Option (List Str)
  | [] => some []
  | ⟨some x, _, _⟩ :: r => (kwNames r).map (x :: ·)
  | _ => none
/-- set(a), in a len(..) -/
def lenSetA (c : Cc) : Expr → Option Expr
  | .Call (.Name s _) [b] [] _ => if s = "set" ∧ c.blt s = true ∧ noStars [b] = true then some b else none
  | _ => none
/-- a call of a name -/
def stCall (r : Rec) (c : Cc) (x : Str) (args : List Expr) (kws : List Keyword) : Option Ex :=
  match findF c.fns x with
  | some e => if okName x = true ∧ c.isG x = true ∧ noStars args = true then
      match kws with
      | [] => do
        let ms ← r.es c args
        pure (.call e.ix ms)
      | _ => do
        let ks ← kwNames kws
        let p ← findK e.kws args.length ks
        let ms ← r.es c args
        let mk ← r.ks c kws
        if p.length = args.length + ks.length then pure (.callk e.ix ms mk p) else none
    else none
  | none => if c.blt x = true ∧ noStars args = true then
      match kws, args with
      | [], [a, .Name T _] => if x = "isinstance" then
            if c.blt T = true then do
              let ty ← tyG T
              let ma ← r.e c a
              pure (.op1 (isiD ty) ma)
            else none
          else do
            let g ← bltG x
            let ms ← r.es c args
            pure (.opn g.1 ms)
      | [], [a] => if x = "len" then (match lenSetA c a with
            | some b => do
              let mb ← r.e c b
              pure (.opn cLenSet (.cons mb .nil))
            | none => do
              let ma ← r.view c a
              pure (.len ma))
          else do
            let g ← bltG x
            let ms ← r.es c args
            pure (.opn g.1 ms)
      | [], _ :: _ => do
            let g ← bltG x
            let ms ← r.es c args
            pure (.opn g.1 ms)
      | _, _ => none
    else none
def few (n : Nat) : Bool := decide (n < 29)
/-- a constant tuple of the module -/
def glTup (c : Cc) (o : Expr) : Option (List D) := match o with
  | .Name x _ => if okName x = true ∧ c.seen x = false ∧ c.isG x = true then (match c.glo.lookup x with
    | some (.tuple ds) => some ds
    | _ => none) else none
  | _ => none
/-- a constant text -/
def strE (c : Cc) (o : Expr) : Bool := match o with
  | .Name x _ => !c.seen x && c.isG x && (match c.glo.lookup x with
    | some (.str _) => true
    | _ => false)
  | .Constant (.str _) _ _ => true
  | _ => false
def mS1 (x : Str) : Option ((Str → List D → Option D) × String) :=
  if x = "count" then some (gCount, "str.count")
  else if x = "join" then some (gJoin, "str.join")
  else if x = "find" then some (gFind, "str.find")
  else if x = "split" then some (gSplit, "str.split")
  else if x = "index" then some (gSIndex, "str.index")
  else none
def mL1 (x : Str) : Option ((List D → List D → Option D) × (List D → List D → Option (D × List D)) × String) :=
  if x = "append" then some (gNo2, gAppend, "list.append")
  else if x = "insert" then some (gNo2, gInsert, "list.insert")
  else if x = "pop" then some (gNo2, gPopAt, "list.pop")
  else if x = "index" then some (gIndex, gIndexW, "list.index")
  else none
/-- a call of a method -/
def stMeth (r : Rec) (c : Cc) (o : Expr) (x : Str) (ap pos : Pos) (args : List Expr) : Option Ex :=
  if noStars args = true ∧ few args.length = true ∧ (ap.endLine == pos.line) = true ∧ x ≠ "__class__" then
    match args with
    | [] => if x = "upper" then do
          let mo ← r.e c o
          pure (.mstr gUpper mo .nil)
        else if x = "pop" then do
          let mo ← r.view c o
          pure (.mlst gNo2 gPop mo .nil)
        else if x = "clear" then do
          let mo ← r.view c o
          pure (.mlst gNo2 gClear mo .nil)
        else none
    | _ :: _ => match (if x = "index" then glTup c o else none) with
      | some ds => do
          let ms ← r.es c args
          pure (.opn cTIndex (.cons (.c (.tuple ds)) ms))
      | none => if x = "index" ∧ strE c o = false then do
            let mo ← r.view c o
            let ms ← r.es c args
            pure (.mlst gIndex gIndexW mo ms)
          else match mS1 x with
          | some g => do
              let mo ← r.e c o
              let ms ← r.es c args
              pure (.mstr g.1 mo ms)
          | none => do
              let g ← mL1 x
              let mo ← r.view c o
              let ms ← r.es c args
              pure (.mlst g.1 g.2.1 mo ms)
  else none
def notSetE : Expr → Bool
  | .Set _ _ _ => false
  | _ => true
def ownOf (N : List Str) : List (Str × NameKind) → List (Str × Nat)
  | [] => []
  | (x, .local) :: r => (match idx N x with
    | some i => (x, i) :: ownOf N r
    | none => ownOf N r)
  | (x, .cell) :: r => (match idx N x with
    | some i => (x, i) :: ownOf N r
    | none => ownOf N r)
  | _ :: r => ownOf N r
def stIfs (r : Rec) (c : Cc) : List Expr → Option Te
  | [] => some Te.tt
  | [x] => r.t c x
  | _ => none
/-- a comprehension -/
def stComp (r : Rec) (c : Cc) (elt tgt iter : Expr) (ifs : List Expr) (scope : Scope) : Option Ex := do
  let own := ownOf c.N scope.names
  if blkC c.N c.sc scope own = true ∧ scope.kind = .function ∧ notSetE iter = true then
    let it ← r.i c tgt iter
    let tg ← r.g (c.blk scope) tgt
    let t ← stIfs r (c.blk scope) ifs
    let e ← r.e (c.blk scope) elt
    if tg.slots.all (fun i => (own.map (·.2)).contains i) = true then pure (.comp (own.map (·.2)) e tg it t) else none
  else none
/-- a comprehension of two sources -/
def stComp2 (r : Rec) (c : Cc) (elt tgt iter tgt1 iter1 : Expr) (ifs1 : List Expr) (scope : Scope) : Option Ex := do
  let own := ownOf c.N scope.names
  if blkC c.N c.sc scope own = true ∧ scope.kind = .function ∧ notSetE iter = true ∧ notSetE iter1 = true then
    let it ← r.i c tgt iter
    let tg ← r.g (c.blk scope) tgt
    let it1 ← r.i (c.blk scope) tgt1 iter1
    let tg1 ← r.g (c.blk scope) tgt1
    let t1 ← stIfs r (c.blk scope) ifs1
    let e ← r.e (c.blk scope) elt
    if tg.slots.all (fun i => (own.map (·.2)).contains i) = true ∧ tg1.slots.all (fun i => (own.map (·.2)).contains i) = true then pure (.comp2 (own.map (·.2)) tg1.slots e tg it tg1 it1 t1) else none
  else none
/-- a dict by pairs -/
def stDcomp (r : Rec) (c : Cc) (kx vx tgt iter : Expr) (ifs : List Expr) (scope : Scope) : Option Ex := do
  let own := ownOf c.N scope.names
  if blkC c.N c.sc scope own = true ∧ scope.kind = .function ∧ notSetE iter = true then
    let it ← r.i c tgt iter
    let tg ← r.g (c.blk scope) tgt
    let t ← stIfs r (c.blk scope) ifs
    let mk ← r.e (c.blk scope) kx
    let mv ← r.e (c.blk scope) vx
    if tg.slots.all (fun i => (own.map (·.2)).contains i) = true then pure (.dcomp (own.map (·.2)) mk mv tg it t) else none
  else none
def isIn : CmpOp → Bool
  | .In => true
  | _ => false
def isNIn : CmpOp → Bool
  | .NotIn => true
  | _ => false
def empB : CmpOp → Option Bool
  | .Eq => some true
  | .NotEq => some false
  | _ => none
def isEmpD : Expr → Bool
  | .Dict [] [] _ => true
  | _ => false
def isEmpL : Expr → Bool
  | .List [] _ => true
  | _ => false
/-- a name that holds a list of the store -/
def isRlN (c : Cc) : Expr → Bool
  | .Name x _ => c.rls.contains x
  | _ => false
def stInD (r : Rec) (c : Cc) (a : Expr) (op : CmpOp) (b : Expr) : Option (Ex × Te) :=
  if isIn op = true ∧ rfy c b = true then do
    let ma ← r.e c a
    let mb ← r.view c b
    pure (.inD ma mb, .e (.inD ma mb))
  else if isNIn op = true ∧ rfy c b = true then do
    let ma ← r.e c a
    let mb ← r.view c b
    pure (.not (.inD ma mb), .not (.e (.inD ma mb)))
  else if isEmpD b = true ∧ rfy c a = true then do
    let n ← empB op
    let ma ← r.view c a
    pure (.demp n ma, .e (.demp n ma))
  else if isEmpL b = true ∧ isRlN c a = true then do
    let g ← cmpG op
    let ma ← r.view c a
    let mb ← r.e c b
    pure (.cmpR g ma mb, .e (.cmpR g ma mb))
  else none
/-- a dict's methods -/
def stMethD (r : Rec) (c : Cc) (o : Expr) (x : Str) (ap pos : Pos) (args : List Expr) : Option Ex :=
  if noStars args = true ∧ (ap.endLine == pos.line) = true ∧ rfy c o = true then
    match args with
    | [e] => if x = "get" then do
          let mo ← r.view c o
          let me ← r.e c e
          pure (.dget mo me (.c .none))
        else none
    | [e, f] => if x = "get" then do
          let mo ← r.view c o
          let me ← r.e c e
          let mf ← r.e c f
          pure (.dget mo me mf)
        else if x = "setdefault" then do
          let mo ← r.view c o
          let me ← r.e c e
          let mf ← (match f with
            | .List [] p => some (.nlst .nil)
            | f => r.e c f)
          pure (.dset mo me mf)
        else none
    | _ => none
  else none
/-- list(d), sorted(d) -/
def stCallD (r : Rec) (c : Cc) (x : Str) (args : List Expr) (kws : List Keyword) : Option Ex := match args, kws with
  | [a], [] => if c.blt x = true ∧ noStars args = true ∧ isDct c a = true ∧ (findF c.fns x).isNone = true then
      if x = "list" then (r.view c a).map .dkeys
      else if x = "sorted" then (r.view c a).map .dsort
      else none
    else none
  | _, _ => none
/-- not f() -/
def noCall0 : Expr → Bool
  | .Call (.Name _ _) [] [] _ => false
  | _ => true
def isDz : Expr → Bool
  | .Dict [] [] _ => true
  | _ => false
/-- a display's parts, some of them {} -/
def stDz (r : Rec) (c : Cc) : List Expr → Option Exs
  | [] => some .nil
  | .Dict [] [] _ :: es => do
    let ms ← stDz r c es
    pure (.cons .dz ms)
  | a :: es => if noStar a = true then do
      let m ← r.e c a
      let ms ← stDz r c es
      pure (.cons m ms)
    else none
def stTup (r : Rec) (c : Cc) (es : List Expr) : Option Exs := if es.any isDz = true then stDz r c es else r.es c es
def stepE (r : Rec) (c : Cc) : Expr → Option Ex
  | .Name x _ => stName c x
  | .Constant k _ _ => stConst k
  | .BinOp a op b _ => do
    let g ← opG op
    let ma ← r.e c a
    let mb ← r.e c b
    pure (.op2 g ma mb)
  | .UnaryOp .USub a _ => do
    let ma ← r.e c a
    pure (.op1 dNeg ma)
  | .UnaryOp .Not a _ => do
    let ma ← r.e c a
    pure (.not ma)
  | .BoolOp _ [a] _ => r.e c a
  | .BoolOp .And (a :: b :: rest) p => do
    let ma ← r.e c a
    let mb ← r.e c (.BoolOp .And (b :: rest) p)
    pure (.and ma mb)
  | .BoolOp .Or (a :: b :: rest) p => do
    let ma ← r.e c a
    let mb ← r.e c (.BoolOp .Or (b :: rest) p)
    pure (.or ma mb)
  | .IfExp t a b _ => do
    let mt ← r.t c t
    let ma ← r.e c a
    let mb ← r.e c b
    pure (.ite mt ma mb)
  | .Dict [] [] _ => some .dnew
  | .Compare a [op] [b] _ => if behindInMarks op b = false then (match stInD r c a op b with
      | some m => some m.1
      | none => do
        let g ← cmpG op
        let ma ← r.e c a
        let mb ← r.e c b
        pure (.op2 g ma mb))
    else none
  | .Compare a [op, op'] [b, d] _ => if behindInMarks op b = false ∧ behindInMarks op' d = false then do
      let g ← cmpG op
      let h ← cmpG op'
      let ma ← r.e c a
      let mb ← r.e c b
      let mc ← r.e c d
      pure (.chain g h ma mb mc)
    else none
  | .Tuple es _ _ => do
    let ms ← stTup r c es
    pure (.tup ms)
  | .List es _ => do
    let ms ← stTup r c es
    pure (.lst ms)
  | .Subscript a i _ => stSub r c a i
  | .Call (.Name x _) args kws _ => (match stCallD r c x args kws with
      | some m => some m
      | none => stCall r c x args kws)
  | .Call (.Attribute o x ap) args [] pos => if noCall0 o = true then (match stMethD r c o x ap pos args with
      | some m => some m
      | none => stMeth r c o x ap pos args) else none
  | .ListComp elt [⟨tgt, iter, ifs, 0⟩] scope _ => stComp r c elt tgt iter ifs scope
  | .ListComp elt [⟨tgt, iter, [], 0⟩, ⟨tgt1, iter1, ifs1, 0⟩] scope _ => stComp2 r c elt tgt iter tgt1 iter1 ifs1 scope
  | .DictComp kx vx [⟨tgt, iter, ifs, 0⟩] scope _ => stDcomp r c kx vx tgt iter ifs scope
  | .JoinedStr [.FormattedValue a cv (some (.JoinedStr [.Constant (.str x) _ _] _)) _] _ => if cv = -1 ∧ x = "b" then do
      let ma ← r.e c a
      pure (.op1 dBin ma)
    else none
  | _ => none
section
variable {cl : Nat → Addr} {F : Fs} {k : Nat} {c : Cc} {W' : WX} {X : Cx} {r : Rec}
theorem okN {x : Str} (h : okName x = true) : (x == ("__debug__" : Str)) = false ∧ (x == ("__classdict__" : Str)) = false ∧ x ≠ "__name__" := by
  unfold okName at h
  simp only [Bool.and_eq_true, Bool.not_eq_true'] at h
  exact ⟨h.1.1, h.1.2, fun e => by subst e; exact absurd h.2 (by decide)⟩
theorem view_ok (h : Snd cl F k r) {a : Expr} {m : Ex} (e : r.view c a = some m) (S : Sit cl F k c W' X) : PEm cl W' F X a m := by
  unfold Rec.view at e
  split at e
  · rename_i x p
    split at e
    · rename_i q
      obtain ⟨i, e1, e2⟩ := Option.map_eq_some_iff.mp e
      subst e2
      exact r_var (by rw [S.hN]; exact idx_at e1) (S.vis q.2) (okN q.1).1 (okN q.1).2.1
    · exact h.e _ _ _ e _ _ S
  · exact h.e _ _ _ e _ _ S
theorem lookup_mem {α : Type} : ∀ {l : List (Str × α)} {x : Str} {y : α}, l.lookup x = some y → (x, y) ∈ l
  | (a, b) :: r, x, y, h => by
    rw [List.lookup_cons] at h
    cases q : x == a with
    | true =>
      rw [q] at h
      cases h
      rw [eq_of_beq q]
      exact .head _
    | false =>
      rw [q] at h
      exact .tail _ (lookup_mem h)
theorem name_ok {x : Str} {p : Pos} {m : Ex} (e : stName c x = some m) (S : Sit cl F k c W' X) : PEm cl W' F X (.Name x p) m := by
  unfold stName at e
  split at e
  rotate_left
  · cases e
  rename_i o
  split at e
  · rename_i q
    obtain ⟨i, e1, e2⟩ := Option.map_eq_some_iff.mp e
    subst e2
    have v : PEm cl W' F X (.Name x p) (.var i) := r_var (by rw [S.hN]; exact idx_at e1) (S.vis q) (okN o).1 (okN o).2.1
    split
    · exact r_frz v
    · exact v
  · split at e
    · rename_i q
      obtain ⟨d, e1, e2⟩ := Option.map_eq_some_iff.mp e
      subst e2
      obtain ⟨u, v, g1, g2, g3, _⟩ := S.glo _ (lookup_mem e1)
      exact r_c (pe_glob (S.gl q) g1 g2 (okN o).1) g3
    · cases e
theorem const_ok {x : Const} {j : Nat} {p : Pos} {m : Ex} (e : stConst x = some m) : PEm cl W' F X (.Constant x j p) m := by
  unfold stConst at e
  split at e <;> first | (cases e; done) | cases e
  · exact r_c pe_non fun _ => .non
  · rename_i b
    exact r_c pe_bl fun _ => .bl b
  · exact r_c pe_int fun _ => .int _
  · exact r_c pe_str fun _ => .str _
theorem bind_some {α β : Type} {o : Option α} {f : α → Option β} {b : β} (h : (o >>= f) = some b) : ∃ a, o = some a ∧ f a = some b := by
  cases o with
  | none => cases h
  | some a => exact ⟨a, rfl, h⟩
theorem plainIx {i : Expr} (h : ∀ a b d p, i ≠ .Slice a b d p) : PlainIx i := fun o j => by
  cases i <;> first | rfl | exact absurd rfl (h _ _ _ _)
theorem sub_ok (h : Snd cl F k r) {a i : Expr} {p : Pos} {m : Ex} (e : stSub r c a i = some m) (S : Sit cl F k c W' X) : PEm cl W' F X (.Subscript a i p) m := by
  unfold stSub at e
  split at e
  · obtain ⟨ma, e1, e⟩ := bind_some e
    obtain ⟨ml, e2, e⟩ := bind_some e
    obtain ⟨mh, e3, e⟩ := bind_some e
    cases e
    exact r_slice (view_ok h e1 S) (h.e _ _ _ e2 _ _ S) (h.e _ _ _ e3 _ _ S)
  · obtain ⟨ma, e1, e⟩ := bind_some e
    obtain ⟨ml, e2, e⟩ := bind_some e
    cases e
    exact r_sliceL (view_ok h e1 S) (h.e _ _ _ e2 _ _ S)
  · obtain ⟨ma, e1, e⟩ := bind_some e
    obtain ⟨mh, e3, e⟩ := bind_some e
    cases e
    exact r_sliceR (view_ok h e1 S) (h.e _ _ _ e3 _ _ S)
  · obtain ⟨ma, e1, e⟩ := bind_some e
    cases e
    exact r_sliceN (view_ok h e1 S)
  · cases e
  · rename_i n1 n2 n3 n4 n5
    obtain ⟨ma, e1, e⟩ := bind_some e
    obtain ⟨mi, e2, e⟩ := bind_some e
    cases e
    split
    · exact r_subR (by have := S.units; omega) S.hw (view_ok h e1 S) (h.e _ _ _ e2 _ _ S) (plainIx fun a b d p q => n5 a b d p q)
    · exact r_sub (view_ok h e1 S) (h.e _ _ _ e2 _ _ S) (plainIx fun a b d p q => n5 a b d p q)
theorem findF_ok : ∀ {l : List Fe} {x : Str} {e : Fe}, findF l x = some e → e ∈ l ∧ e.nm = x
  | a :: r, x, e, h => by
    unfold findF at h
    split at h
    · cases h
      exact ⟨.head _, by assumption⟩
    · obtain ⟨p, q⟩ := findF_ok h
      exact ⟨.tail _ p, q⟩
theorem findK_ok : ∀ {l : List (Nat × List Str × List Nat)} {n : Nat} {ks : List Str} {p : List Nat}, findK l n ks = some p → (n, ks, p) ∈ l
  | (m, js, q) :: r, n, ks, p, h => by
    unfold findK at h
    split at h
    · rename_i w
      cases h
      obtain ⟨rfl, rfl⟩ := w
      exact .head _
    · exact .tail _ (findK_ok h)
/-- positional arguments only -/
theorem calls_pos (S : Sit cl F k c W' X) {e : Fe} (he : e ∈ c.fns) : ∃ f, X.mg e.nm = some (.ref f) ∧ PySem.W.keepIn X.K (.ref f) = true ∧ CallsTo cl W' F X f [] some e.ix := by
  obtain ⟨⟨f, fd, ps, g1, g2, G, g3, g4, g5⟩, gl⟩ := S.fns e he
  refine ⟨f, g1, g2, call_g G S.room S.grd S.tk g3 (fun φ H s us uk vs vk ws wk wz hk r1 r2 hl q1 q2 eg hz => ?_) gl⟩
  have : uk = [] := List.eq_nil_of_length_eq_zero hl
  subst this
  cases r2
  cases q2
  cases eg
  simp only [List.append_nil] at hz ⊢
  exact ⟨vs, us, r1, q1, g4 s us hk (by rw [← r1.length, ← q1.len]; exact hz)⟩
/-- keywords -/
theorem calls_kw (S : Sit cl F k c W' X) {e : Fe} (he : e ∈ c.fns) {n : Nat} {ks : List Str} {p : List Nat} (hp : (n, ks, p) ∈ e.kws) (hl : p.length = n + ks.length) : ∃ f, X.mg e.nm = some (.ref f) ∧ PySem.W.keepIn X.K (.ref f) = true ∧ CallsTo cl W' F X f ks (fun ws => pickx ws p) e.ix := by
  obtain ⟨⟨f, fd, ps, g1, g2, G, g3, g4, g5⟩, gl⟩ := S.fns e he
  refine ⟨f, g1, g2, call_g G S.room S.grd S.tk g3 (fun φ H s us uk vs vk ws wk wz hk r1 r2 hu q1 q2 eg hz => ?_) gl⟩
  unfold pickx at eg
  split at eg
  rotate_left
  · cases eg
  rename_i hw
  rw [List.length_append, q1.len, q2.len, r1.length, r2.length, hu, hl] at hw
  have hun : us.length = n := by omega
  obtain ⟨uz, b1, b2⟩ := g5 _ hp s us uk hk hun hu
  obtain ⟨vz, c1, c2⟩ := pick_rel (wrs_app q1 q2) eg
  obtain ⟨uz', d1, d2⟩ := pick_vals (r1.append r2) c1
  rw [b1] at d1
  cases d1
  exact ⟨vz, uz, d2, c2, b2⟩
theorem kwNames_ok : ∀ {kws : List Keyword} {ks : List Str} {env : Env} {pos : Pos}, kwNames kws = some ks → (backToKw pos (keywordEach kws env)).all (·.1.isSome) = true ∧ (backToKw pos (keywordEach kws env)).filterMap (·.1) = ks ∧ kws.length = ks.length ∧ (backToKw pos (keywordEach kws env)).any (·.1.isNone) = false
  | [], ks, env, pos, h => by cases h; exact ⟨rfl, rfl, rfl, rfl⟩
  | ⟨some x, a, p⟩ :: r, ks, env, pos, h => by
    unfold kwNames at h
    obtain ⟨ks', h1, h2⟩ := Option.map_eq_some_iff.mp h
    subst h2
    obtain ⟨a1, a2, a3, a4⟩ := kwNames_ok (env := env) (pos := pos) h1
    refine ⟨?_, ?_, by simp [a3], ?_⟩
    · show (true && (backToKw pos (keywordEach r env)).all (·.1.isSome)) = true
      rw [a1]; rfl
    · show x :: (backToKw pos (keywordEach r env)).filterMap (·.1) = _
      rw [a2]
    · show (false || (backToKw pos (keywordEach r env)).any (·.1.isNone)) = false
      rw [a4]; rfl
  | ⟨none, a, p⟩ :: r, ks, env, pos, h => by cases h
theorem bltG_ok (S : Sit cl F k c W' X) {x : Str} {g : List D → Option D} {b : Bool} {id : String} (h : bltG x = some (g, b, id)) : if b = true then CallD X (.type id) g ∧ bootBuiltins x = some (.type id) else CallD X (.builtin id) g ∧ bootBuiltins x = some (.builtin id) := by
  unfold bltG at h
  have hu := S.units
  by_cases e : x = "abs"
  · rw [if_pos e] at h
    cases h
    subst e
    exact ⟨cd_abs, by decide +kernel⟩
  rw [if_neg e] at h
  clear e
  by_cases e : x = "max"
  · rw [if_pos e] at h
    cases h
    subst e
    exact ⟨cd_max S.calm, by decide +kernel⟩
  rw [if_neg e] at h
  clear e
  by_cases e : x = "min"
  · rw [if_pos e] at h
    cases h
    subst e
    exact ⟨cd_min S.calm, by decide +kernel⟩
  rw [if_neg e] at h
  clear e
  by_cases e : x = "any"
  · rw [if_pos e] at h
    cases h
    subst e
    exact ⟨cd_any S.calm, by decide +kernel⟩
  rw [if_neg e] at h
  clear e
  by_cases e : x = "all"
  · rw [if_pos e] at h
    cases h
    subst e
    exact ⟨cd_all S.calm, by decide +kernel⟩
  rw [if_neg e] at h
  clear e
  by_cases e : x = "sum"
  · rw [if_pos e] at h
    cases h
    subst e
    exact ⟨cd_sum S.calm, by decide +kernel⟩
  rw [if_neg e] at h
  clear e
  by_cases e : x = "sorted"
  · rw [if_pos e] at h
    cases h
    subst e
    exact ⟨cd_sorted, by decide +kernel⟩
  rw [if_neg e] at h
  clear e
  by_cases e : x = "repr"
  · rw [if_pos e] at h
    cases h
    subst e
    exact ⟨cd_repr S.grd (by omega), by decide +kernel⟩
  rw [if_neg e] at h
  clear e
  by_cases e : x = "divmod"
  · rw [if_pos e] at h
    cases h
    subst e
    exact ⟨cd_divmod, by decide +kernel⟩
  rw [if_neg e] at h
  clear e
  by_cases e : x = "int"
  · rw [if_pos e] at h
    cases h
    subst e
    exact ⟨cd_int, by decide +kernel⟩
  rw [if_neg e] at h
  clear e
  by_cases e : x = "tuple"
  · rw [if_pos e] at h
    cases h
    subst e
    exact ⟨cd_tuple, by decide +kernel⟩
  rw [if_neg e] at h
  clear e
  by_cases e : x = "list"
  · rw [if_pos e] at h
    cases h
    subst e
    exact ⟨cd_list, by decide +kernel⟩
  rw [if_neg e] at h
  clear e
  by_cases e : x = "str"
  · rw [if_pos e] at h
    cases h
    subst e
    exact ⟨cd_str, by decide +kernel⟩
  rw [if_neg e] at h
  clear e
  cases h
end
end Ft
namespace Ft
variable [Wd]
open PySem PySem.Spec L2
section
variable {cl : Nat → Addr} {F : Fs} {k : Nat} {c : Cc} {W' : WX} {X : Cx} {r : Rec}
theorem blt_ok (S : Sit cl F k c W' X) {x : Str} (h : c.blt x = true) : Gl X x ∧ X.mg x = none ∧ x ≠ "__name__" ∧ (x == ("__debug__" : Str)) = false := by
  unfold Cc.blt at h
  simp only [Bool.and_eq_true] at h
  obtain ⟨⟨h1, h2⟩, h3⟩ := h
  exact ⟨S.gl h1, S.free x (List.contains_iff_mem.mp h2), (okN h3).2.2, (okN h3).1⟩
theorem opn_ok (h : Snd cl F k r) (S : Sit cl F k c W' X) {x : Str} {p pos : Pos} {a : Expr} {es : List Expr} {g : (List D → Option D) × Bool × String} {ms : Exs} (hb : c.blt x = true) (hs : noStars (a :: es) = true) (e1 : bltG x = some g) (e2 : r.es c (a :: es) = some ms) : PEm cl W' F X (.Call (.Name x p) (a :: es) [] pos) (.opn g.1 ms) := by
  obtain ⟨b1, b2, b3, b4⟩ := blt_ok S hb
  unfold noStars at hs
  have hs := Bool.and_eq_true_iff.mp hs
  obtain ⟨g, b, id⟩ := g
  have z := bltG_ok S e1
  cases b with
  | true =>
    rw [if_pos rfl] at z
    exact r_opnT z.1 b1 b2 z.2 (h.es _ _ _ e2 _ _ S) b3 b4 (star_not hs.1) (stars_any hs.2)
  | false =>
    rw [if_neg Bool.false_ne_true] at z
    exact r_opnB z.1 b1 b2 z.2 (h.es _ _ _ e2 _ _ S) b3 b4 (star_not hs.1) (stars_any hs.2)
theorem tyG_ok {x : Str} {T : Ty} (h : tyG x = some T) : x = Str.ofString T.nm := by
  unfold tyG at h
  by_cases e : x = "int"
  · rw [if_pos e] at h; cases h; exact e
  rw [if_neg e] at h
  clear e
  by_cases e : x = "bool"
  · rw [if_pos e] at h; cases h; exact e
  rw [if_neg e] at h
  clear e
  by_cases e : x = "str"
  · rw [if_pos e] at h; cases h; exact e
  rw [if_neg e] at h
  clear e
  by_cases e : x = "list"
  · rw [if_pos e] at h; cases h; exact e
  rw [if_neg e] at h
  clear e
  by_cases e : x = "tuple"
  · rw [if_pos e] at h; cases h; exact e
  rw [if_neg e] at h
  clear e
  by_cases e : x = "dict"
  · rw [if_pos e] at h; cases h; exact e
  rw [if_neg e] at h
  cases h
/-- what the steps give no arguments -/
def Rec.nil0 (r : Rec) : Prop := ∀ c ms, r.es c [] = some ms → ms = .nil
theorem lenSetA_ok {c : Cc} {a b : Expr} (h : lenSetA c a = some b) : ∃ p q, a = .Call (.Name "set" p) [b] [] q ∧ c.blt "set" = true ∧ noStars [b] = true := by
  unfold lenSetA at h
  split at h
  · rename_i s p b' q
    split at h
    · rename_i k
      obtain ⟨k1, k2, k3⟩ := k
      cases h
      subst k1
      exact ⟨p, q, rfl, k2, k3⟩
    · cases h
  · cases h
theorem call_ok (h : Snd cl F k r) (h0 : r.nil0) {x : Str} {p pos : Pos} {args : List Expr} {kws : List Keyword} {m : Ex} (e : stCall r c x args kws = some m) (S : Sit cl F k c W' X) : PEm cl W' F X (.Call (.Name x p) args kws pos) m := by
  unfold stCall at e
  split at e
  · rename_i fe hf
    obtain ⟨f1, f2⟩ := findF_ok hf
    split at e
    rotate_left
    · cases e
    rename_i q
    obtain ⟨q1, q2, q3⟩ := q
    split at e
    · obtain ⟨ms, e1, e⟩ := bind_some e
      cases e
      obtain ⟨f, g1, g2, g3⟩ := calls_pos S f1
      rw [f2] at g1
      cases args with
      | nil =>
        rw [h0 _ _ e1]
        exact r_call0 g3 (S.gl q2) g1 g2 (okN q1).1
      | cons a es =>
        unfold noStars at q3
        have q3 := Bool.and_eq_true_iff.mp q3
        exact r_call g3 (S.gl q2) g1 g2 (h.es _ _ _ e1 _ _ S) (okN q1).1 (star_not q3.1) (stars_any q3.2)
    · obtain ⟨ks, e1, e⟩ := bind_some e
      obtain ⟨pp, e2, e⟩ := bind_some e
      obtain ⟨ms, e3, e⟩ := bind_some e
      obtain ⟨mk, e4, e⟩ := bind_some e
      split at e
      rotate_left
      · cases e
      rename_i hl
      cases e
      obtain ⟨f, g1, g2, g3⟩ := calls_kw S f1 (findK_ok e2) hl
      rw [f2] at g1
      obtain ⟨k1, k2, k3, k4⟩ := kwNames_ok (env := X.env) (pos := pos) e1
      obtain ⟨w1, w2⟩ := h.ks _ _ _ e4 _ _ S
      cases args with
      | nil =>
        rw [h0 _ _ e3]
        exact r_callk0 g3 (S.gl q2) g1 g2 w1 k1 k2 k3 (okN q1).1 (by rw [k4]; rfl) w2
      | cons a es =>
        have q4 := q3
        unfold noStars at q3
        have q3 := Bool.and_eq_true_iff.mp q3
        exact r_callk g3 (S.gl q2) g1 g2 (h.es _ _ _ e3 _ _ S) w1 k1 k2 k3 (okN q1).1 (star_not q3.1) (by rw [k4, stars_any q4]; rfl) w2
  · split at e
    rotate_left
    · cases e
    rename_i q
    obtain ⟨q1, q2⟩ := q
    split at e
    · rename_i a T pT
      split at e
      · rename_i hx
        subst hx
        split at e
        · rename_i hT
          obtain ⟨ty, e1, e⟩ := bind_some e
          obtain ⟨ma, e2, e⟩ := bind_some e
          cases e
          obtain ⟨b1, b2, b3, b4⟩ := blt_ok S q1
          obtain ⟨t1, t2, t3, t4⟩ := blt_ok S hT
          have q3 := q2
          unfold noStars at q3
          have q3 := Bool.and_eq_true_iff.mp q3
          exact r_isi (h.e _ _ _ e2 _ _ S) (tyG_ok e1) t1 t2 b1 b2 (star_not q3.1)
        · cases e
      · obtain ⟨g, e1, e⟩ := bind_some e
        obtain ⟨ms, e2, e⟩ := bind_some e
        cases e
        exact opn_ok h S q1 q2 e1 e2
    · rename_i a
      split at e
      · rename_i hx
        split at e
        · rename_i b hb
          obtain ⟨mb, e2, e⟩ := bind_some e
          cases e
          obtain ⟨p2, q, rfl, k1, k2⟩ := lenSetA_ok hb
          obtain ⟨b1, b2, b3, b4⟩ := blt_ok S q1
          obtain ⟨t1, t2, t3, t4⟩ := blt_ok S k1
          unfold noStars at k2
          have k3 := Bool.and_eq_true_iff.mp k2
          subst hx
          exact r_lenset (h.e _ _ _ e2 _ _ S) S.calm b1 b2 t1 t2 (star_not k3.1)
        · obtain ⟨ma, e2, e⟩ := bind_some e
          cases e
          obtain ⟨b1, b2, b3, b4⟩ := blt_ok S q1
          have q3 := q2
          unfold noStars at q3
          have q3 := Bool.and_eq_true_iff.mp q3
          exact r_len (view_ok h e2 S) hx b1 b2 (star_not q3.1)
      · obtain ⟨g, e1, e⟩ := bind_some e
        obtain ⟨ms, e2, e⟩ := bind_some e
        cases e
        exact opn_ok h S q1 q2 e1 e2
    · obtain ⟨g, e1, e⟩ := bind_some e
      obtain ⟨ms, e2, e⟩ := bind_some e
      cases e
      exact opn_ok h S q1 q2 e1 e2
    · cases e
theorem attr_base {o : Expr} {x : Str} {env : Env} {w : Sem Value} (h : ∀ y p p2, o ≠ .Call (.Name y p) [] [] p2) : attributeBase o x env w = w := by
  unfold attributeBase
  cases o <;> try rfl
  rename_i f args kws pos
  cases f <;> try rfl
  cases args <;> try rfl
  cases kws <;> try rfl
  exact absurd rfl (h _ _ _)
theorem noCall0_ok {o : Expr} (h : noCall0 o = true) : ∀ y p p2, o ≠ .Call (.Name y p) [] [] p2 := fun y p p2 e => by
  subst e
  cases h
theorem kwAll_nil {env : Env} {pos : Pos} : (backToKw pos (keywordEach [] env)).all (fun x => x.1.isSome) = true := rfl
theorem stars_all {pos : Pos} {env : Env} : ∀ {es : List Expr}, noStars es = true → (backTo pos (starEach es env)).all (fun x => !x.1) = true
  | [], _ => rfl
  | e :: r, h => by
    unfold noStars at h
    have h := Bool.and_eq_true_iff.mp h
    rw [star_not h.1]
    show (true && (backTo pos (starEach r env)).all (fun x => !x.1)) = true
    rw [stars_all h.2]
    rfl
theorem mS1_ok {x : Str} {g : (Str → List D → Option D) × String} (h : mS1 x = some g) : Slot "str" x g.2 ∧ typeOf (.builtin g.2) = pure (.type "method_descriptor") ∧ MtS X g.2 g.1 := by
  unfold mS1 at h
  split at h
  · rename_i e; cases h; subst e; exact ⟨PySem.F.slot_str_count, PySem.F.type_str_count, ms_count⟩
  split at h
  · rename_i e; cases h; subst e; exact ⟨PySem.F.slot_str_join, PySem.F.type_str_join, ms_join⟩
  split at h
  · rename_i e; cases h; subst e; exact ⟨PySem.F.slot_str_find, PySem.F.type_str_find, ms_find⟩
  split at h
  · rename_i e; cases h; subst e; exact ⟨PySem.F.slot_str_split, PySem.F.type_str_split, ms_split⟩
  split at h
  · rename_i e; cases h; subst e; exact ⟨PySem.F.slot_str_index, PySem.F.type_str_index, ms_index⟩
  · cases h
theorem mL1_ok (hu : X.A.units + 65 < cLine) {x : Str} {g : (List D → List D → Option D) × (List D → List D → Option (D × List D)) × String} (h : mL1 x = some g) : Slot "list" x g.2.2 ∧ typeOf (.builtin g.2.2) = pure (.type "method_descriptor") ∧ MtL X g.2.2 g.1 ∧ MtW X g.2.2 g.2.1 := by
  unfold mL1 at h
  split at h
  · rename_i e; cases h; subst e; exact ⟨PySem.F.slot_list_append, PySem.F.type_list_append, ml_no, mw_append⟩
  split at h
  · rename_i e; cases h; subst e; exact ⟨PySem.F.slot_list_insert, PySem.F.type_list_insert, ml_no, mw_insert⟩
  split at h
  · rename_i e; cases h; subst e; exact ⟨PySem.F.slot_list_pop, PySem.F.type_list_pop, ml_no, mw_popAt⟩
  split at h
  · rename_i e; cases h; subst e; exact ⟨PySem.F.slot_list_index, PySem.F.type_list_index, ml_index hu, mw_index hu⟩
  · cases h
theorem glTup_ok {c : Cc} {o : Expr} {ds : List D} (h : glTup c o = some ds) (S : Sit cl F k c W' X) : ∃ v p ob, PE X o (tC v) ∧ v = .ref p ∧ X.K.lookup p = some ob ∧ ob.cls = .type "tuple" ∧ ob.dict = none ∧ ∀ H, Dp X.K H v (.tuple ds) := by
  unfold glTup at h
  split at h
  · split at h
    · rename_i q
      split at h
      · rename_i ds' e1
        cases h
        obtain ⟨u, v, g1, g2, g3, g4⟩ := S.glo _ (lookup_mem e1)
        obtain ⟨p, ob, h1, h2, h3, h4⟩ := g4 _ rfl
        exact ⟨v, p, ob, pe_glob (S.gl q.2.2) g1 g2 (okN q.1).1, h1, h2, h3, h4, g3⟩
      · cases h
    · cases h
  · cases h
theorem meth_ok (h : Snd cl F k r) {o : Expr} {x : Str} {ap pos : Pos} {args : List Expr} {m : Ex} (e : stMeth r c o x ap pos args = some m) (hn : noCall0 o = true) (S : Sit cl F k c W' X) : PEm cl W' F X (.Call (.Attribute o x ap) args [] pos) m := by
  unfold stMeth at e
  have hu : X.A.units + 65 < cLine := by have := S.units; omega
  split at e
  rotate_left
  · cases e
  rename_i q
  obtain ⟨q1, q2, q3, q4⟩ := q
  split at e
  · split at e
    · rename_i hx
      obtain ⟨mo, e1, e⟩ := bind_some e
      cases e
      subst hx
      exact r_mstr0 PySem.F.plainAttrs_str PySem.F.slot_str_upper PySem.F.type_str_upper ms_upper (h.e _ _ _ e1 _ _ S) (attr_base (noCall0_ok hn)) q3
    split at e
    · rename_i hx
      obtain ⟨mo, e1, e⟩ := bind_some e
      cases e
      subst hx
      exact r_mlst0 PySem.F.plainAttrs_list PySem.F.slot_list_pop PySem.F.type_list_pop mw_pop (view_ok h e1 S) (attr_base (noCall0_ok hn)) q3
    split at e
    · rename_i hx
      obtain ⟨mo, e1, e⟩ := bind_some e
      cases e
      subst hx
      exact r_mlst0 PySem.F.plainAttrs_list PySem.F.slot_list_clear PySem.F.type_list_clear mw_clear (view_ok h e1 S) (attr_base (noCall0_ok hn)) q3
    · cases e
  · rename_i a es
    have q2' : (a :: es).length < 29 := of_decide_eq_true q2
    have hfew : ((backTo pos (starEach (a :: es) X.env)).all (fun x => !x.1) && (backToKw pos (keywordEach [] X.env)).all (fun x => x.1.isSome) && decide ((a :: es).length + ([] : List Keyword).length + (if ([] : List Keyword).isEmpty then 0 else 1) < 30)) = true := by
      rw [stars_all q1, kwAll_nil]
      have : decide ((a :: es).length + ([] : List Keyword).length + (if ([] : List Keyword).isEmpty then 0 else 1) < 30) = true := by
        apply decide_eq_true
        have : ([] : List Keyword).isEmpty = true := rfl
        rw [this]
        simp only [List.length_nil, if_true]
        omega
      rw [this]
      rfl
    have q5 := q1
    unfold noStars at q5
    have q5 := Bool.and_eq_true_iff.mp q5
    split at e
    · rename_i ds hds
      split at hds
      · rename_i hx
        subst hx
        obtain ⟨ms, e2, e⟩ := bind_some e
        cases e
        obtain ⟨v, p, ob, p1, p2, p3, p4, p5, p6⟩ := glTup_ok hds S
        exact r_tidx p1 p2 p3 p4 p5 p6 (h.es _ _ _ e2 _ _ S) (attr_base (noCall0_ok hn)) hfew q3 (star_not q5.1) (stars_any q5.2)
      · cases hds
    · split at e
      · rename_i hx
        obtain ⟨mo, e1, e⟩ := bind_some e
        obtain ⟨ms, e2, e⟩ := bind_some e
        cases e
        obtain ⟨hx, _⟩ := hx
        subst hx
        exact r_mlst PySem.F.plainAttrs_list PySem.F.slot_list_index PySem.F.type_list_index (ml_index hu) (mw_index hu) (view_ok h e1 S) (h.es _ _ _ e2 _ _ S) (attr_base (noCall0_ok hn)) hfew q3 (star_not q5.1) (stars_any q5.2)
      · split at e
        · rename_i g hg
          obtain ⟨mo, e1, e⟩ := bind_some e
          obtain ⟨ms, e2, e⟩ := bind_some e
          cases e
          obtain ⟨m1, m2, m3⟩ := mS1_ok hg
          exact r_mstr PySem.F.plainAttrs_str m1 m2 m3 (h.e _ _ _ e1 _ _ S) (h.es _ _ _ e2 _ _ S) (attr_base (noCall0_ok hn)) hfew q3 (star_not q5.1) (stars_any q5.2)
        · obtain ⟨g, hg, e⟩ := bind_some e
          obtain ⟨mo, e1, e⟩ := bind_some e
          obtain ⟨ms, e2, e⟩ := bind_some e
          cases e
          obtain ⟨m1, m2, m3, m4⟩ := mL1_ok hu hg
          exact r_mlst PySem.F.plainAttrs_list m1 m2 m3 m4 (view_ok h e1 S) (h.es _ _ _ e2 _ _ S) (attr_base (noCall0_ok hn)) hfew q3 (star_not q5.1) (stars_any q5.2)
theorem fold_ok {e : Expr} {env : Env} (h : notSetE e = true) : ∀ x, foldedSetIterable e env x = pure x := fun x => by
  cases e <;> first | rfl | cases h
theorem comp_ok (h : Snd cl F k r) {elt tgt iter : Expr} {ifs : List Expr} {scope : Scope} {p : Pos} {m : Ex} (e : stComp r c elt tgt iter ifs scope = some m) (S : Sit cl F k c W' X) : PEm cl W' F X (.ListComp elt [⟨tgt, iter, ifs, 0⟩] scope p) m := by
  unfold stComp at e
  dsimp only at e
  split at e
  rotate_left
  · cases e
  rename_i q
  obtain ⟨q1, q2, q3⟩ := q
  obtain ⟨it, e1, e⟩ := bind_some e
  obtain ⟨tg, e2, e⟩ := bind_some e
  obtain ⟨t, e3, e⟩ := bind_some e
  obtain ⟨el, e4, e⟩ := bind_some e
  split at e
  rotate_left
  · cases e
  rename_i q4
  cases e
  refine r_comp S.calm (by rw [S.hN]; exact S.nd) (h.i _ _ _ _ e1 _ _ S) (by rw [S.hN, S.hsc]; exact blkOk_by q1) (fun s H C cs fp => h.g _ _ _ e2 _ _ (S.blk q2 s H C cs fp)) (fun s H C cs fp => ?_) (fun s H C cs fp => h.e _ _ _ e4 _ _ (S.blk q2 s H C cs fp)) (fold_ok q3) fun i hi => List.contains_iff_mem.mp (List.all_eq_true.mp q4 i hi)
  unfold stIfs at e3
  split at e3
  · cases e3
    exact rts_nil
  · exact rts_one (h.t _ _ _ e3 _ _ (S.blk q2 s H C cs fp))
  · cases e3
theorem ifs_ok (h : Snd cl F k r) {ifs : List Expr} {t : Te} {c : Cc} {Y : Cx} (e3 : stIfs r c ifs = some t) (S : Sit cl F k c WF Y) : PTs Y ifs (rdT cl Y.K WF fun τ S => evT F τ S t) := by
  unfold stIfs at e3
  split at e3
  · cases e3
    exact rts_nil
  · exact rts_one (h.t _ _ _ e3 _ _ S)
  · cases e3
theorem dcomp_ok (h : Snd cl F k r) {kx vx tgt iter : Expr} {ifs : List Expr} {scope : Scope} {p : Pos} {m : Ex} (e : stDcomp r c kx vx tgt iter ifs scope = some m) (S : Sit cl F k c W' X) : PEm cl W' F X (.DictComp kx vx [⟨tgt, iter, ifs, 0⟩] scope p) m := by
  unfold stDcomp at e
  dsimp only at e
  split at e
  rotate_left
  · cases e
  rename_i q
  obtain ⟨q1, q2, q3⟩ := q
  obtain ⟨it, e1, e⟩ := bind_some e
  obtain ⟨tg, e2, e⟩ := bind_some e
  obtain ⟨t, e3, e⟩ := bind_some e
  obtain ⟨mk, e4, e⟩ := bind_some e
  obtain ⟨mv, e5, e⟩ := bind_some e
  split at e
  rotate_left
  · cases e
  rename_i q4
  cases e
  refine r_dcomp S.calm (by rw [S.hN]; exact S.nd) (h.i _ _ _ _ e1 _ _ S) (by rw [S.hN, S.hsc]; exact blkOk_by q1) (fun s H C cs fp => h.g _ _ _ e2 _ _ (S.blk q2 s H C cs fp)) (fun s H C cs fp => ?_) (fun s H C cs fp => h.e _ _ _ e4 _ _ (S.blk q2 s H C cs fp)) (fun s H C cs fp => h.e _ _ _ e5 _ _ (S.blk q2 s H C cs fp)) (fold_ok q3) fun i hi => List.contains_iff_mem.mp (List.all_eq_true.mp q4 i hi)
  unfold stIfs at e3
  split at e3
  · cases e3
    exact rts_nil
  · exact rts_one (h.t _ _ _ e3 _ _ (S.blk q2 s H C cs fp))
  · cases e3
theorem inD_ok (h : Snd cl F k r) {a b : Expr} {op : CmpOp} {m : Ex × Te} {pos : Pos} (e : stInD r c a op b = some m) (S : Sit cl F k c W' X) (q : behindInMarks op b = false) : PEm cl W' F X (.Compare a [op] [b] pos) m.1 ∧ PTm cl W' F X (.Compare a [op] [b] pos) m.2 := by
  have hu : X.A.units + 50 < cLine := by have := S.units; omega
  unfold stInD at e
  split at e
  · rename_i q'
    obtain ⟨ma, e1, e⟩ := bind_some e
    obtain ⟨mb, e2, e⟩ := bind_some e
    cases e
    have hop : op = .In := by
      have := q'.1
      cases op <;> first | rfl | cases this
    subst hop
    exact ⟨r_inD hu S.hw (h.e _ _ _ e1 _ _ S) (view_ok h e2 S) q, r_tinD hu S.hw (h.e _ _ _ e1 _ _ S) (view_ok h e2 S) q⟩
  split at e
  · rename_i q'
    obtain ⟨ma, e1, e⟩ := bind_some e
    obtain ⟨mb, e2, e⟩ := bind_some e
    cases e
    have hop : op = .NotIn := by
      have := q'.1
      cases op <;> first | rfl | cases this
    subst hop
    exact ⟨r_ninD hu S.hw (h.e _ _ _ e1 _ _ S) (view_ok h e2 S) q, r_tninD hu S.hw (h.e _ _ _ e1 _ _ S) (view_ok h e2 S) q⟩
  split at e
  · rename_i q'
    obtain ⟨n, e1, e⟩ := bind_some e
    obtain ⟨ma, e2, e⟩ := bind_some e
    cases e
    have hb : ∃ p, b = .Dict [] [] p := by
      have := q'.1
      unfold isEmpD at this
      split at this
      · exact ⟨_, rfl⟩
      · cases this
    obtain ⟨p2, rfl⟩ := hb
    have hop : op = empOp n := by
      cases op <;> cases e1 <;> rfl
    subst hop
    exact ⟨r_demp hu S.hw (view_ok h e2 S) q, r_tdemp hu S.hw (view_ok h e2 S) q⟩
  split at e
  · obtain ⟨g, e1, e⟩ := bind_some e
    obtain ⟨ma, e2, e⟩ := bind_some e
    obtain ⟨mb, e3, e⟩ := bind_some e
    cases e
    exact ⟨r_cmpD (cmpG_boo e1) (cmpG_ok S.units e1) (view_ok h e2 S) (h.e _ _ _ e3 _ _ S) q, r_tcmpD (cmpG_boo e1) (cmpG_ok S.units e1) (view_ok h e2 S) (h.e _ _ _ e3 _ _ S) q⟩
  · cases e
theorem methD_ok (h : Snd cl F k r) {o : Expr} {x : Str} {ap pos : Pos} {args : List Expr} {m : Ex} (e : stMethD r c o x ap pos args = some m) (hn : noCall0 o = true) (S : Sit cl F k c W' X) : PEm cl W' F X (.Call (.Attribute o x ap) args [] pos) m := by
  have hu : X.A.units + 50 < cLine := by have := S.units; omega
  unfold stMethD at e
  split at e
  rotate_left
  · cases e
  rename_i q
  obtain ⟨q1, q2, q3⟩ := q
  split at e
  · rename_i e1
    have q5 := Bool.and_eq_true_iff.mp (show (noStar e1 && noStars []) = true from q1)
    split at e
    · rename_i hx
      subst hx
      obtain ⟨mo, e2, e⟩ := bind_some e
      obtain ⟨me, e3, e⟩ := bind_some e
      cases e
      refine r_dget1 hu S.hw (view_ok h e2 S) (h.e _ _ _ e3 _ _ S) ⟨attr_base (noCall0_ok hn), ?_, q2, ?_⟩
      · rw [stars_all q1, kwAll_nil]
        rfl
      · rw [star_not q5.1]
        rfl
    · cases e
  · rename_i e1 e2
    have q5 := Bool.and_eq_true_iff.mp (show (noStar e1 && noStars [e2]) = true from q1)
    have q6 := Bool.and_eq_true_iff.mp (show (noStar e2 && noStars []) = true from q5.2)
    have few : ∀ es : List Expr, noStars es = true → es.length = 2 → ((backTo pos (starEach es X.env)).all (fun x => !x.1) && (backToKw pos (keywordEach [] X.env)).all (fun x => x.1.isSome) && decide (es.length + ([] : List Keyword).length + (if ([] : List Keyword).isEmpty then 0 else 1) < 30)) = true := fun es hs hl => by
      rw [stars_all hs, kwAll_nil, hl]
      rfl
    have tr : backTo pos (starEach [e1, e2] X.env) = [(false, eval e1 X.env), (false, eval e2 X.env)] := by
      rw [star_not q5.1, star_not q6.1]
      rfl
    split at e
    · rename_i hx
      subst hx
      obtain ⟨mo, f1, e⟩ := bind_some e
      obtain ⟨me, f2, e⟩ := bind_some e
      obtain ⟨mf, f3, e⟩ := bind_some e
      cases e
      exact r_dget2 hu S.hw (view_ok h f1 S) (h.e _ _ _ f2 _ _ S) (h.e _ _ _ f3 _ _ S) ⟨attr_base (noCall0_ok hn), few _ q1 rfl, q2, tr⟩
    split at e
    · rename_i hx
      subst hx
      obtain ⟨mo, f1, e⟩ := bind_some e
      obtain ⟨me, f2, e⟩ := bind_some e
      obtain ⟨mf, f3, e⟩ := bind_some e
      cases e
      refine r_dset hu S.hw (view_ok h f1 S) (h.e _ _ _ f2 _ _ S) ?_ ⟨attr_base (noCall0_ok hn), few _ q1 rfl, q2, tr⟩
      split at f3
      · cases f3
        exact r_nlst ra_nil
      · exact h.e _ _ _ f3 _ _ S
    · cases e
  · cases e
theorem callD_ok (h : Snd cl F k r) {x : Str} {p pos : Pos} {args : List Expr} {kws : List Keyword} {m : Ex} (e : stCallD r c x args kws = some m) (S : Sit cl F k c W' X) : PEm cl W' F X (.Call (.Name x p) args kws pos) m := by
  unfold stCallD at e
  split at e
  · rename_i a
    split at e
    · rename_i q
      obtain ⟨q1, q2, q3, q4⟩ := q
      have q5 := Bool.and_eq_true_iff.mp (show (noStar a && noStars []) = true from q2)
      obtain ⟨b1, b2, b3, b4⟩ := blt_ok S q1
      split at e
      · rename_i hx
        obtain ⟨ma, e1, rfl⟩ := Option.map_eq_some_iff.mp e
        exact r_dkeys S.hw S.calm (view_ok h e1 S) hx b1 b2 (star_not q5.1)
      split at e
      · rename_i hx
        obtain ⟨ma, e1, rfl⟩ := Option.map_eq_some_iff.mp e
        exact r_dsort S.hw S.calm (view_ok h e1 S) hx b1 b2 (star_not q5.1)
      · cases e
    · cases e
  · cases e
theorem stDz_ok (h : Snd cl F k r) : ∀ {es : List Expr} {ms : Exs}, stDz r c es = some ms → Sit cl F k c W' X → PAm cl W' F X es ms := by
  intro es
  induction es with
  | nil =>
    intro ms e S
    cases e
    exact ra_nil
  | cons a es ih =>
    intro ms e S
    unfold stDz at e
    split at e
    · rename_i q; cases q
    · rename_i p es' q
      obtain ⟨q1, q2⟩ := List.cons.inj q
      subst q1 q2
      obtain ⟨ms', e2, e⟩ := bind_some e
      cases e
      exact ra_cons r_dz (ih e2 S) (star_not rfl)
    · rename_i a' es' n q
      obtain ⟨q1, q2⟩ := List.cons.inj q
      subst q1 q2
      split at e
      · rename_i ns
        obtain ⟨m, e1, e⟩ := bind_some e
        obtain ⟨ms', e2, e⟩ := bind_some e
        cases e
        exact ra_cons (h.e _ _ _ e1 _ _ S) (ih e2 S) (star_not ns)
      · cases e
theorem stTup_ok (h : Snd cl F k r) {es : List Expr} {ms : Exs} (e : stTup r c es = some ms) (S : Sit cl F k c W' X) : PAm cl W' F X es ms := by
  unfold stTup at e
  split at e
  · exact stDz_ok h e S
  · exact h.es _ _ _ e _ _ S
theorem comp2_ok (h : Snd cl F k r) {elt tgt iter tgt1 iter1 : Expr} {ifs1 : List Expr} {scope : Scope} {p : Pos} {m : Ex} (e : stComp2 r c elt tgt iter tgt1 iter1 ifs1 scope = some m) (S : Sit cl F k c W' X) : PEm cl W' F X (.ListComp elt [⟨tgt, iter, [], 0⟩, ⟨tgt1, iter1, ifs1, 0⟩] scope p) m := by
  unfold stComp2 at e
  dsimp only at e
  split at e
  rotate_left
  · cases e
  rename_i q
  obtain ⟨q1, q2, q3, q4⟩ := q
  obtain ⟨it, e1, e⟩ := bind_some e
  obtain ⟨tg, e2, e⟩ := bind_some e
  obtain ⟨it1, e3, e⟩ := bind_some e
  obtain ⟨tg1, e4, e⟩ := bind_some e
  obtain ⟨t1, e5, e⟩ := bind_some e
  obtain ⟨el, e6, e⟩ := bind_some e
  split at e
  rotate_left
  · cases e
  rename_i q5
  cases e
  exact r_comp2 S.calm (by rw [S.hN]; exact S.nd) (h.i _ _ _ _ e1 _ _ S) (by rw [S.hN, S.hsc]; exact blkOk_by q1) (fun i hi => List.contains_iff_mem.mp (List.all_eq_true.mp q5.2 i hi)) (fun s H C cs fp => h.g _ _ _ e2 _ _ (S.blk q2 s H C cs fp)) (fun s H C cs fp => h.i _ _ _ _ e3 _ _ (S.blk q2 s H C cs fp)) (fun s H C cs fp => h.g _ _ _ e4 _ _ (S.blk q2 s H C cs fp)) (fun s H C cs fp => ifs_ok h e5 (S.blk q2 s H C cs fp)) (fun s H C cs fp => h.e _ _ _ e6 _ _ (S.blk q2 s H C cs fp)) (fold_ok q3) (fun env => fold_ok q4) (fun i hi => List.contains_iff_mem.mp (List.all_eq_true.mp q5.1 i hi)) fun i hi => hi
theorem stepE_ok (h : Snd cl F k r) (h0 : r.nil0) {a : Expr} {m : Ex} (e : stepE r c a = some m) (S : Sit cl F k c W' X) : PEm cl W' F X a m := by
  unfold stepE at e
  split at e
  · exact name_ok e S
  · exact const_ok e
  · obtain ⟨g, e1, e⟩ := bind_some e
    obtain ⟨ma, e2, e⟩ := bind_some e
    obtain ⟨mb, e3, e⟩ := bind_some e
    cases e
    exact r_op2 (opG_ok e1) (h.e _ _ _ e2 _ _ S) (h.e _ _ _ e3 _ _ S)
  · obtain ⟨ma, e2, e⟩ := bind_some e
    cases e
    exact r_neg ud_neg (h.e _ _ _ e2 _ _ S)
  · obtain ⟨ma, e2, e⟩ := bind_some e
    cases e
    exact r_not (h.e _ _ _ e2 _ _ S)
  · exact r_one (h.e _ _ _ e _ _ S)
  · obtain ⟨ma, e2, e⟩ := bind_some e
    obtain ⟨mb, e3, e⟩ := bind_some e
    cases e
    exact r_and (h.e _ _ _ e2 _ _ S) (h.e _ _ _ e3 _ _ S)
  · obtain ⟨ma, e2, e⟩ := bind_some e
    obtain ⟨mb, e3, e⟩ := bind_some e
    cases e
    exact r_or (h.e _ _ _ e2 _ _ S) (h.e _ _ _ e3 _ _ S)
  · obtain ⟨mt, e1, e⟩ := bind_some e
    obtain ⟨ma, e2, e⟩ := bind_some e
    obtain ⟨mb, e3, e⟩ := bind_some e
    cases e
    exact r_ite (h.t _ _ _ e1 _ _ S) (h.e _ _ _ e2 _ _ S) (h.e _ _ _ e3 _ _ S)
  · cases e
    exact r_dnew
  · split at e
    rotate_left
    · cases e
    rename_i q
    split at e
    · rename_i m' hm
      cases e
      exact (inD_ok h hm S q).1
    · obtain ⟨g, e1, e⟩ := bind_some e
      obtain ⟨ma, e2, e⟩ := bind_some e
      obtain ⟨mb, e3, e⟩ := bind_some e
      cases e
      exact r_cmp (cmpG_ok S.units e1) (h.e _ _ _ e2 _ _ S) (h.e _ _ _ e3 _ _ S) q
  · split at e
    rotate_left
    · cases e
    rename_i q
    obtain ⟨g, e1, e⟩ := bind_some e
    obtain ⟨g', e1', e⟩ := bind_some e
    obtain ⟨ma, e2, e⟩ := bind_some e
    obtain ⟨mb, e3, e⟩ := bind_some e
    obtain ⟨mc, e4, e⟩ := bind_some e
    cases e
    exact r_chain (cmpG_boo e1) (cmpG_ok S.units e1) (cmpG_ok S.units e1') (h.e _ _ _ e2 _ _ S) (h.e _ _ _ e3 _ _ S) (h.e _ _ _ e4 _ _ S) q.1 q.2
  · obtain ⟨ms, e2, e⟩ := bind_some e
    cases e
    exact r_tup (stTup_ok h e2 S)
  · obtain ⟨ms, e2, e⟩ := bind_some e
    cases e
    exact r_lst (stTup_ok h e2 S)
  · exact sub_ok h e S
  · split at e
    · rename_i m' hm
      cases e
      exact callD_ok h hm S
    · exact call_ok h h0 e S
  · split at e
    · split at e
      · rename_i m' hm
        cases e
        exact methD_ok h hm (by assumption) S
      · exact meth_ok h e (by assumption) S
    · cases e
  · exact comp_ok h e S
  · exact comp2_ok h e S
  · exact dcomp_ok h e S
  · split at e
    · rename_i q
      obtain ⟨rfl, rfl⟩ := q
      obtain ⟨ma, e2, e⟩ := bind_some e
      cases e
      exact r_fmtB (h.e _ _ _ e2 _ _ S)
    · cases e
  · cases e
end
end Ft
namespace Ft
variable [Wd]
open PySem PySem.Spec L2
def stepEs (r : Rec) (c : Cc) : List Expr → Option Exs
  | [] => some .nil
  | .Starred a _ :: es => do
    let m ← r.e c a
    let ms ← r.es c es
    pure (.star m ms)
  | a :: es => do
    let m ← r.e c a
    let ms ← r.es c es
    pure (.cons m ms)
def stepKs (r : Rec) (c : Cc) : List Keyword → Option Exs
  | [] => some .nil
  | ⟨_, a, _⟩ :: es => do
    let m ← r.e c a
    let ms ← r.ks c es
    pure (.cons m ms)
def stepT (r : Rec) (c : Cc) (a : Expr) : Option Te := match a with
  | .UnaryOp .Not a _ => do
    let m ← r.t c a
    pure (.not m)
  | .BoolOp _ _ _ => r.w c a
  | .IfExp t a b _ => do
    let mt ← r.t c t
    let ma ← r.t c a
    let mb ← r.t c b
    pure (.ite mt ma mb)
  | .Compare a [op] [b] _ => if behindInMarks op b = false then (match stInD r c a op b with
      | some m => some m.2
      | none => do
        let g ← cmpG op
        let ma ← r.e c a
        let mb ← r.e c b
        pure (.e (.op2 g ma mb)))
    else none
  | .Compare a [op, op'] [b, d] _ => if behindInMarks op b = false ∧ behindInMarks op' d = false then do
      let g ← cmpG op
      let h ← cmpG op'
      let ma ← r.e c a
      let mb ← r.e c b
      let mc ← r.e c d
      pure (.e (.chain g h ma mb mc))
    else none
  | .Compare _ _ _ _ => none
  | .UnaryOp _ _ _ => none
  | a => do
    let m ← r.view c a
    pure (.e m)
def stepW (r : Rec) (c : Cc) : Expr → Option Te
  | .BoolOp _ [a] _ => r.t c a
  | .BoolOp .And (a :: b :: rest) p => do
    let ma ← r.t c a
    let mb ← r.w c (.BoolOp .And (b :: rest) p)
    pure (.and ma mb)
  | .BoolOp .Or (a :: b :: rest) p => do
    let ma ← r.t c a
    let mb ← r.w c (.BoolOp .Or (b :: rest) p)
    pure (.or ma mb)
  | _ => none
def stepI (r : Rec) (c : Cc) (tg : Expr) (a : Expr) : Option Ie := match a with
  | .Call (.Name x p1) [a] [] p2 =>
    if x = "range" then if c.blt x = true ∧ noStar a = true then do
        let m ← r.e c a
        pure (.rng (.c (.int 0)) m)
      else none
    else if x = "enumerate" then match tg with
      | .Tuple _ _ _ => if c.blt x = true ∧ noStar a = true then do
          let m ← r.e c a
          pure (.enum m)
        else none
      | _ => none
    else (r.e c (.Call (.Name x p1) [a] [] p2)).map .seq
  | .Call (.Name x p1) [a, b] [] p2 =>
    if x = "range" then if c.blt x = true ∧ noStar a = true ∧ noStar b = true then do
        let m ← r.e c a
        let n ← r.e c b
        pure (.rng m n)
      else none
    else if x = "zip" then match tg with
      | .Tuple _ _ _ => if c.blt x = true ∧ noStar a = true ∧ noStar b = true then do
          let m ← r.e c a
          let n ← r.e c b
          pure (.zip m n)
        else none
      | _ => none
    else (r.e c (.Call (.Name x p1) [a, b] [] p2)).map .seq
  | .Call (.Name x p1) [a, b, d] [] p2 =>
    if x = "range" then if c.blt x = true ∧ noStars [a, b, d] = true then do
        let m ← r.e c a
        let n ← r.e c b
        let o ← r.e c d
        pure (.rng3 m n o)
      else none
    else (r.e c (.Call (.Name x p1) [a, b, d] [] p2)).map .seq
  | a => (r.e c a).map .seq
def Cc.tgt (c : Cc) (x : Str) : Bool := c.isL x || (c.isC x && c.fnx x)
def notSlice : Expr → Bool
  | .Slice _ _ _ _ => false
  | _ => true
/-- two names, the second one of a list of anything -/
def pairG (c : Cc) : List Expr → Option Tg
  | [.Name x _, .Name y _] => if c.rls.contains y = true ∧ c.tgt x = true ∧ c.tgt y = true then (match idx c.N x, idx c.N y with
    | some i, some j => some (.u i j)
    | _, _ => none) else none
  | _ => none
def tupG (r : Rec) (c : Cc) (elts : List Expr) : Option Tg := do
  let m ← r.gs c elts
  let n ← m.many
  if n = elts.length ∧ noStars elts = true then pure m else none
def stepG (r : Rec) (c : Cc) : Expr → Option Tg
  | .Name x _ => if c.tgt x = true then (idx c.N x).map .v else none
  | .Tuple elts _ _ => (match pairG c elts with
    | some g => some g
    | none => tupG r c elts)
  | .Subscript o i _ => if notSlice i = true then do
      let mo ← r.view c o
      let mi ← r.e c i
      pure (.s mo mi)
    else none
  | _ => none
def stepGs (r : Rec) (c : Cc) : List Expr → Option Tg
  | [] => some .e
  | a :: es => if noStar a = true then do
      let m ← r.g c a
      let ms ← r.gs c es
      pure (.t m ms)
    else none
section
variable {cl : Nat → Addr} {F : Fs} {k : Nat} {c : Cc} {W' : WX} {X : Cx} {r : Rec}
theorem noStar_of {e : Expr} (h : ∀ a p, e = .Starred a p → False) : noStar e = true := by
  cases e <;> first | rfl | exact (h _ _ rfl).elim
theorem assign_sub {o i : Expr} {p : Pos} {env : Env} (h : notSlice i = true) (v : Value) : assign (.Subscript o i p) env v = (do
    let ov ← holding [v] (eval o env)
    let iv ← holding [v, ov] (eval i env)
    standAt p
    holding [v, ov, iv] (setItem ov iv v)
    release [v, ov, iv] []) := by
  cases i <;> first | rfl | cases h
theorem stepEs_ok (h : Snd cl F k r) {a : List Expr} {m : Exs} (e : stepEs r c a = some m) (S : Sit cl F k c W' X) : PAm cl W' F X a m := by
  unfold stepEs at e
  split at e
  · cases e
    exact ra_nil
  · obtain ⟨ma, e1, e⟩ := bind_some e
    obtain ⟨ms, e2, e⟩ := bind_some e
    cases e
    exact ra_star (h.e _ _ _ e1 _ _ S) (h.es _ _ _ e2 _ _ S) rfl
  · rename_i n
    obtain ⟨ma, e1, e⟩ := bind_some e
    obtain ⟨ms, e2, e⟩ := bind_some e
    cases e
    refine ra_cons (h.e _ _ _ e1 _ _ S) (h.es _ _ _ e2 _ _ S) (star_not (noStar_of fun a p q => n a p q))
theorem stepKs_ok (h : Snd cl F k r) {a : List Keyword} {m : Exs} (e : stepKs r c a = some m) (S : Sit cl F k c W' X) : PKm cl W' F X a m ∧ ∀ {τ S ws S'}, evs F τ S m = .ok ws S' → ws.length = a.length := by
  unfold stepKs at e
  split at e
  · cases e
    refine ⟨rk_nil, fun {τ S ws S'} q => ?_⟩
    simp only [evs] at q
    cases q
    rfl
  · obtain ⟨ma, e1, e⟩ := bind_some e
    obtain ⟨ms, e2, e⟩ := bind_some e
    cases e
    obtain ⟨w1, w2⟩ := h.ks _ _ _ e2 _ _ S
    refine ⟨rk_cons (h.e _ _ _ e1 _ _ S) w1, fun {τ S ws S'} q => ?_⟩
    simp only [evs] at q
    cases q1 : ev F τ S ma with
    | no => rw [q1] at q; cases q
    | exc _ _ => rw [q1] at q; cases q
    | ok w S1 =>
      rw [q1] at q
      dsimp only [Res.bind] at q
      cases q2 : evs F τ S1 ms with
      | no => rw [q2] at q; cases q
      | exc _ _ => rw [q2] at q; cases q
      | ok ws S2 =>
        rw [q2] at q
        cases q
        simp [w2 q2]
theorem stepT_ok (h : Snd cl F k r) {a : Expr} {m : Te} (e : stepT r c a = some m) (S : Sit cl F k c W' X) : PTm cl W' F X a m := by
  unfold stepT at e
  split at e
  · obtain ⟨ma, e1, e⟩ := bind_some e
    cases e
    exact rt_not (h.t _ _ _ e1 _ _ S)
  · exact (h.w _ _ _ e _ _ S).pt
  · obtain ⟨mt, e1, e⟩ := bind_some e
    obtain ⟨ma, e2, e⟩ := bind_some e
    obtain ⟨mb, e3, e⟩ := bind_some e
    cases e
    exact rt_ite (h.t _ _ _ e1 _ _ S) (h.t _ _ _ e2 _ _ S) (h.t _ _ _ e3 _ _ S)
  · split at e
    rotate_left
    · cases e
    rename_i q
    split at e
    · rename_i m' hm
      cases e
      exact (inD_ok h hm S q).2
    · obtain ⟨g, e1, e⟩ := bind_some e
      obtain ⟨ma, e2, e⟩ := bind_some e
      obtain ⟨mb, e3, e⟩ := bind_some e
      cases e
      exact r_tcmp (cmpG_boo e1) (cmpG_ok S.units e1) (h.e _ _ _ e2 _ _ S) (h.e _ _ _ e3 _ _ S) q
  · split at e
    rotate_left
    · cases e
    rename_i q
    obtain ⟨g, e1, e⟩ := bind_some e
    obtain ⟨g', e1', e⟩ := bind_some e
    obtain ⟨ma, e2, e⟩ := bind_some e
    obtain ⟨mb, e3, e⟩ := bind_some e
    obtain ⟨mc, e4, e⟩ := bind_some e
    cases e
    exact rt_chain (cmpG_boo e1) (cmpG_boo e1') (cmpG_ok S.units e1) (cmpG_ok S.units e1') (h.e _ _ _ e2 _ _ S) (h.e _ _ _ e3 _ _ S) (h.e _ _ _ e4 _ _ S) q.1 q.2
  · cases e
  · cases e
  · rename_i n1 n2 n3 n4 n5 n6 n7
    obtain ⟨ma, e1, e⟩ := bind_some e
    cases e
    refine rt_e (view_ok h e1 S) fun whole => ?_
    cases a <;> first | rfl | exact absurd rfl (n2 _ _ _) | exact absurd rfl (n3 _ _ _ _) | exact absurd rfl (n6 _ _ _ _) | exact absurd rfl (n7 _ _ _)
theorem stepW_ok (h : Snd cl F k r) {a : Expr} {m : Te} (e : stepW r c a = some m) (S : Sit cl F k c W' X) : PWm cl W' F X a m := by
  unfold stepW at e
  split at e
  · rename_i op a p
    cases op with
    | And => exact rw_and1 (h.t _ _ _ e _ _ S)
    | Or => exact rw_or1 (h.t _ _ _ e _ _ S)
  · obtain ⟨ma, e1, e⟩ := bind_some e
    obtain ⟨mb, e2, e⟩ := bind_some e
    cases e
    exact rw_and (h.t _ _ _ e1 _ _ S) (h.w _ _ _ e2 _ _ S)
  · obtain ⟨ma, e1, e⟩ := bind_some e
    obtain ⟨mb, e2, e⟩ := bind_some e
    cases e
    exact rw_or (h.t _ _ _ e1 _ _ S) (h.w _ _ _ e2 _ _ S)
  · cases e
theorem seq_ok (h : Snd cl F k r) {tg a : Expr} {m : Ie} (e : (r.e c a).map Ie.seq = some m) (S : Sit cl F k c W' X) : PIm cl W' F X tg a m := by
  obtain ⟨ma, e1, e2⟩ := Option.map_eq_some_iff.mp e
  subst e2
  exact ri_seq (h.e _ _ _ e1 _ _ S)
theorem stepI_ok (h : Snd cl F k r) {tg a : Expr} {m : Ie} (e : stepI r c tg a = some m) (S : Sit cl F k c W' X) : PIm cl W' F X tg a m := by
  unfold stepI at e
  split at e
  · split at e
    · rename_i hx
      split at e
      rotate_left
      · cases e
      rename_i q
      obtain ⟨m1, e1, e⟩ := bind_some e
      cases e
      obtain ⟨b1, b2, b3, b4⟩ := blt_ok S q.1
      exact ri_rng1 hx b1 b2 (h.e _ _ _ e1 _ _ S) (star_not q.2)
    · split at e
      · rename_i hx
        split at e
        rotate_left
        · cases e
        split at e
        rotate_left
        · cases e
        rename_i q
        obtain ⟨m1, e1, e⟩ := bind_some e
        cases e
        obtain ⟨b1, b2, b3, b4⟩ := blt_ok S q.1
        exact ri_enum hx b1 b2 (h.e _ _ _ e1 _ _ S) (star_not q.2)
      · exact seq_ok h e S
  · split at e
    · rename_i hx
      split at e
      rotate_left
      · cases e
      rename_i q
      obtain ⟨m1, e1, e⟩ := bind_some e
      obtain ⟨m2, e2, e⟩ := bind_some e
      cases e
      obtain ⟨b1, b2, b3, b4⟩ := blt_ok S q.1
      refine ri_rng2 hx b1 b2 (h.e _ _ _ e1 _ _ S) (h.e _ _ _ e2 _ _ S) ?_ (star_not q.2.2)
      rw [star_not q.2.1, star_not q.2.2]
      rfl
    · split at e
      · rename_i hx
        split at e
        rotate_left
        · cases e
        split at e
        rotate_left
        · cases e
        rename_i q
        obtain ⟨m1, e1, e⟩ := bind_some e
        obtain ⟨m2, e2, e⟩ := bind_some e
        cases e
        obtain ⟨b1, b2, b3, b4⟩ := blt_ok S q.1
        exact ri_zip hx b1 b2 (h.e _ _ _ e1 _ _ S) (h.e _ _ _ e2 _ _ S) (star_not q.2.1) (star_not q.2.2)
      · exact seq_ok h e S
  · split at e
    · rename_i hx
      split at e
      rotate_left
      · cases e
      rename_i q
      obtain ⟨q1, q2⟩ := q
      obtain ⟨m1, e1, e⟩ := bind_some e
      obtain ⟨m2, e2, e⟩ := bind_some e
      obtain ⟨m3, e3, e⟩ := bind_some e
      cases e
      obtain ⟨b1, b2, b3, b4⟩ := blt_ok S q1
      unfold noStars at q2
      have q2 := Bool.and_eq_true_iff.mp q2
      have q3 := q2.2
      unfold noStars at q3
      have q3 := Bool.and_eq_true_iff.mp q3
      have q4 := q3.2
      unfold noStars at q4
      have q4 := Bool.and_eq_true_iff.mp q4
      exact ri_rng3 hx b1 b2 (h.e _ _ _ e1 _ _ S) (h.e _ _ _ e2 _ _ S) (h.e _ _ _ e3 _ _ S) (star_not q2.1) (star_not q3.1) (star_not q4.1) (stars_any q2.2)
    · exact seq_ok h e S
  · exact seq_ok h e S
theorem tgt_ok (S : Sit cl F k c W' X) {x : Str} (h : c.tgt x = true) : Loc X.env.scope x ∧ (X.fn x = true ∨ X.env.scope.names.lookup x = some .local) := by
  unfold Cc.tgt at h
  rcases Bool.or_eq_true_iff.mp h with h | h
  · exact ⟨.inl (S.loc h), .inr (S.loc h)⟩
  · have h := Bool.and_eq_true_iff.mp h
    exact ⟨.inr (S.cell h.1), .inl (S.fnx x h.2)⟩
theorem Sit.dry (S : Sit cl F k c W' X) : Sit cl F k c WF X := { S with tk := takes0 }
theorem each_not {e : Expr} {es : List Expr} {env : Env} (h : noStar e = true) : (assignEach (e :: es) env).map (·.2) = assign e env :: (assignEach es env).map (·.2) := by
  cases e <;> first | rfl | cases h
theorem each_plain {env : Env} : ∀ {es : List Expr}, noStars es = true → (assignEach es env).length = es.length ∧ (assignEach es env).findIdx? (·.1) = none
  | [], _ => ⟨rfl, rfl⟩
  | e :: r, h => by
    unfold noStars at h
    have h := Bool.and_eq_true_iff.mp h
    obtain ⟨a, b⟩ := each_plain (env := env) h.2
    have : assignEach (e :: r) env = (false, assign e env) :: assignEach r env := by
      have h1 := h.1
      cases e <;> first | rfl | cases h1
    rw [this]
    refine ⟨by simp [a], ?_⟩
    rw [List.findIdx?_cons]
    simp only [Bool.false_eq_true, if_false]
    rw [b]
    rfl
theorem stepG_ok (h : Snd cl F k r) {a : Expr} {m : Tg} (e : stepG r c a = some m) (S : Sit cl F k c W' X) : PGm F X a m := by
  unfold stepG at e
  split at e
  · split at e
    · rename_i q
      obtain ⟨i, e1, e2⟩ := Option.map_eq_some_iff.mp e
      subst e2
      obtain ⟨t1, t2⟩ := tgt_ok S q
      exact rg_v (by rw [S.hN]; exact S.nd) (by rw [S.hN]; exact idx_at e1) t1 t2
    · cases e
  · split at e
    · rename_i g eg
      cases e
      unfold pairG at eg
      split at eg
      · split at eg
        · rename_i q
          split at eg
          · rename_i i j e1 e2
            cases eg
            obtain ⟨t1, t2⟩ := tgt_ok S q.2.1
            obtain ⟨t3, t4⟩ := tgt_ok S q.2.2
            exact rg_u S.calm (by rw [S.hN]; exact S.nd) (by rw [S.hN]; exact idx_at e1) t1 t2 (by rw [S.hN]; exact idx_at e2) t3 t4
          · cases eg
        · cases eg
      · cases eg
    · unfold tupG at e
      obtain ⟨mg, e1, e⟩ := bind_some e
      obtain ⟨n, e2, e⟩ := bind_some e
      split at e
      · rename_i q
        cases e
        obtain ⟨p1, p2⟩ := each_plain (env := X.env) q.2
        exact rg_tup S.calm (h.gs _ _ _ e1 _ _ S) e2 (by rw [p1, q.1]) p2
      · cases e
  · split at e
    · rename_i q
      obtain ⟨mo, e1, e⟩ := bind_some e
      obtain ⟨mi, e2, e⟩ := bind_some e
      cases e
      refine rg_s (by have := S.units; omega) S.hw (view_ok h e1 S.dry) (h.e _ _ _ e2 _ _ S.dry) (assign_sub q)
    · cases e
  · cases e
theorem stepGs_ok (h : Snd cl F k r) {a : List Expr} {m : Tg} (e : stepGs r c a = some m) (S : Sit cl F k c W' X) : PGsm F X a m := by
  unfold stepGs at e
  split at e
  · cases e
    exact rgs_nil
  · split at e
    · rename_i q
      obtain ⟨m1, e1, e⟩ := bind_some e
      obtain ⟨m2, e2, e⟩ := bind_some e
      cases e
      exact rgs_cons (h.g _ _ _ e1 _ _ S) (h.gs _ _ _ e2 _ _ S) (each_not q)
    · cases e
end
end Ft
namespace Ft
variable [Wd]
open PySem PySem.Spec L2
/-- not a comprehension -/
def noComp : Expr → Bool
  | .ListComp _ _ _ _ => false
  | .SetComp _ _ _ _ => false
  | .DictComp _ _ _ _ _ => false
  | _ => true
/-- a value, for a name -/
def stVal (r : Rec) (c : Cc) (x : Str) (a : Expr) : Option Ex := match a with
  | .List es p => if c.rls.contains x = true then do
      let ms ← r.es c es
      pure (.rlst ms)
    else if c.nls.contains x = true then do
      let ms ← r.es c es
      pure (.nlst ms)
    else r.e c (.List es p)
  | .BinOp (.List es p1) .Mult b p => if c.nls.contains x = true then do
      let ma ← r.e c (.List es p1)
      let mb ← r.e c b
      pure (.nbin dMul' ma mb)
    else r.e c (.BinOp (.List es p1) .Mult b p)
  | a => r.e c a
def toN : Ex → Ex
  | .comp vs e tg it t => .compN vs e tg it t
  | m => m
def anyRl (c : Cc) (es : List Expr) : Bool := es.any fun e => match e with
  | .Name x _ => c.rls.contains x
  | _ => false
def stRet (r : Rec) (c : Cc) (a : Expr) : Option Ex := match a with
  | .Tuple es n p => if anyRl c es = true then do
      let ms ← r.es c es
      pure (.rtup ms)
    else r.e c (.Tuple es n p)
  | .ListComp elt [⟨tgt, iter, ifs, 0⟩] scope p => if c.retn = true then (stComp r c elt tgt iter ifs scope).map toN
    else r.e c (.ListComp elt [⟨tgt, iter, ifs, 0⟩] scope p)
  | .List es p => if c.retn = true then do
      let ms ← r.es c es
      pure (.nlst ms)
    else r.e c (.List es p)
  | a => r.e c a
/-- does a comprehension store itself -/
def swL (c : Cc) (y : Str) (ly lv : Nat) (scope : Scope) : Bool := c.isL y && ly == lv && !(scope.names.any fun (n, k) => n == y && (k == .local || k == .cell))
def isLst : Expr → Bool
  | .List _ _ => true
  | .Dict _ _ _ => true
  | _ => false
def isTupE : Expr → Bool
  | .Tuple _ _ _ => true
  | _ => false
def isTgtPlain : Expr → Bool
  | .Name _ _ => true
  | .Subscript _ _ _ => true
  | _ => false
/-- two names, two values -/
def swN (c : Cc) (x y : Str) (lx ly : Nat) (a b : Expr) : Bool := c.isL x && c.isL y && ly == lx && !(x == y) && noStar a && noStar b && !([a, b].all (foldedForSure 8)) && !([a, b].all (constantsAlone 8))
/-- three names, three values -/
def swN3 (c : Cc) (x y z : Str) (lx ly lz : Nat) (a b d : Expr) : Bool := c.isL x && c.isL y && c.isL z && ly == lx && lz == lx && !(x == y) && !(x == z) && !(y == z) && noStar a && noStar b && noStar d && !([a, b, d].all (foldedForSure 8)) && !([a, b, d].all (constantsAlone 8))
/-- no such swap: a target that is none, or all folded -/
def swO (c : Cc) (ts vs : List Expr) : Bool := !(ts.length == 2 || ts.length == 3) || vs.length != ts.length || (noStars vs &&
  ((ts.any fun t => match t with
    | .Name x _ => !c.isL x
    | _ => true) || vs.all (foldedForSure 8)))
/-- names as targets -/
def tgIdx (c : Cc) : List Expr → Option (List Nat)
  | [] => some []
  | .Name x _ :: r => if c.tgt x = true then (idx c.N x).bind fun i => (tgIdx c r).map fun is => i :: is else none
  | _ => none
/-- values, by the names they are for -/
def valEs (r : Rec) (c : Cc) : List Expr → List Expr → Option Exs
  | .Name x _ :: ts, v :: vs => if noStar v = true then do
      let m ← stVal r c x v
      let ms ← valEs r c ts vs
      pure (.cons m ms)
    else none
  | [], [] => some .nil
  | _, _ => none
def stAsg (r : Rec) (c : Cc) (t : Expr) (v : Expr) (line : Nat) : Option Sm := match t, v with
  | .Name y py, .ListComp elt [⟨tgt, iter, ifs, 0⟩] scope p2 => do
    let m ← stComp r c elt tgt iter ifs scope
    let g ← r.g c (.Name y py)
    if swL c y py.line p2.line scope = true then (idx c.N y).bind fun i => match g with
        | .v j => if i = j then some (.asg (.v i) (if c.nls.contains y = true then toN m else m)) else none
        | _ => none
      else some (.asg g m)
  | .Name y py, .ListComp elt [⟨tgt, iter, [], 0⟩, ⟨tgt1, iter1, ifs1, 0⟩] scope p2 => do
    let m ← stComp2 r c elt tgt iter tgt1 iter1 ifs1 scope
    let g ← r.g c (.Name y py)
    if swL c y py.line p2.line scope = true then (idx c.N y).bind fun i => match g with
        | .v j => if i = j then some (.asg (.v i) m) else none
        | _ => none
      else some (.asg g m)
  | .Tuple [.Name x px, .Name y py] _ _, .Tuple [a, b] _ _ =>
    if swN c x y px.line py.line a b = true then do
      let ma ← stVal r c x a
      let mb ← stVal r c y b
      let i ← idx c.N x
      let j ← idx c.N y
      if i ≠ j then pure (.par i j ma mb) else none
    else if swO c [.Name x px, .Name y py] [a, b] = true then
      if isLst a = true ∨ isLst b = true then
        if c.tgt x = true ∧ c.tgt y = true ∧ noStar a = true ∧ noStar b = true then do
          let ma ← stVal r c x a
          let mb ← stVal r c y b
          let i ← idx c.N x
          let j ← idx c.N y
          pure (.par i j ma mb)
        else none
      else do
        let g ← r.g c t
        let m ← r.e c v
        pure (.asg g m)
    else none
  | .Tuple [.Name x px, .Name y py, .Name z pz] _ _, .Tuple [a, b, d] _ _ =>
    if swN3 c x y z px.line py.line pz.line a b d = true then do
      let ma ← stVal r c x a
      let mb ← stVal r c y b
      let md ← stVal r c z d
      let i ← idx c.N x
      let j ← idx c.N y
      let n ← idx c.N z
      if i ≠ j ∧ i ≠ n ∧ j ≠ n then pure (.par3 i j n ma mb md) else none
    else if swO c [.Name x px, .Name y py, .Name z pz] [a, b, d] = true then do
      let g ← r.g c t
      let m ← r.e c v
      pure (.asg g m)
    else none
  | .Tuple ts _ _, .Tuple vs _ _ => if swO c ts vs = true then (if anyRl c ts = true then do
      let is ← tgIdx c ts
      let ms ← valEs r c ts vs
      if noStars ts = true ∧ is.length = ts.length then pure (.asg (.us is) (.rtup ms)) else none
    else do
      let g ← r.g c t
      let m ← r.e c v
      pure (.asg g m))
    else none
  | .Name x _, v => if noComp v = true then do
      let g ← r.g c t
      let m ← stVal r c x v
      pure (.asg g m)
    else none
  | .Tuple _ _ _, v => if noComp v = true ∧ isTupE v = false then do
      let g ← r.g c t
      let m ← r.e c v
      pure (.asg g m)
    else none
  | .Subscript _ _ _, v => if noComp v = true then do
      let g ← r.g c t
      let m ← r.e c v
      pure (.asg g m)
    else none
  | _, _ => none
def badS : Sm := .ex .bad
def stepS (r : Rec) (c : Cc) : Stmt → Option Sm
  | .Expr (.Constant (.str _) _ _) _ => some .pass
  | .Expr (.Call f args kws p) _ => do
    let m ← r.e c (.Call f args kws p)
    pure (.ex m)
  | .Assign [t] v p => stAsg r c t v p.line
  | .AugAssign (.Name x _) op v _ => if c.tgt x = true then do
      let g ← iopG op
      let i ← idx c.N x
      let m ← r.e c v
      pure (.aug i g m)
    else none
  | .Return none _ => some (.ret (.c .none))
  | .Return (some a) _ => do
    let m ← stRet r c a
    pure (.ret m)
  | .If t a b _ => do
    let mt ← r.t c t
    let ma ← r.b c a
    let mb ← r.b c b
    pure (.ifs mt ma mb)
  | .For tg it b [] _ => if notSetE it = true then do
      let g ← r.g c tg
      let mi ← r.i c tg it
      let mb ← r.b c b
      pure (.fors g mi mb)
    else none
  | .While t b [] _ => do
    let mt ← r.t c t
    let mb ← r.b c b
    pure (.whl mt mb)
  | .Pass _ => some .pass
  | .Break _ => some .brk
  | .Continue _ => some .cnt
  | .Raise _ _ _ => some badS
  | _ => none
def stepB (r : Rec) (c : Cc) : List Stmt → Option Bk
  | [] => some .nil
  | s :: ss => do
    let m ← r.s c s
    let ms ← r.b c ss
    pure (.cons m ms)
def Rec.step (r : Rec) : Rec := ⟨stepE r, stepEs r, stepKs r, stepT r, stepW r, stepI r, stepG r, stepGs r, stepS r, stepB r⟩
def rec_ : Nat → Rec
  | 0 => .none
  | n + 1 => (rec_ n).step
section
variable {cl : Nat → Addr} {F : Fs} {k : Nat} {c : Cc} {W' : WX} {X : Cx} {r : Rec}
theorem bad_ok {st : Stmt} : PSm cl W' F X st badS := ⟨fun pins s σ H D I ⟨τ, S, φ, l, sr, h⟩ => by
  unfold badS at h
  simp only [exe, ev, Res.up_no] at h
  exact h.elim⟩
theorem val_ok (h : Snd cl F k r) {x : Str} {a : Expr} {m : Ex} (e : stVal r c x a = some m) (S : Sit cl F k c W' X) : PEm cl W' F X a m := by
  unfold stVal at e
  split at e
  · split at e
    · obtain ⟨ms, e1, e⟩ := bind_some e
      cases e
      exact r_rlst (h.es _ _ _ e1 _ _ S)
    split at e
    · obtain ⟨ms, e1, e⟩ := bind_some e
      cases e
      exact r_nlst (h.es _ _ _ e1 _ _ S)
    · exact h.e _ _ _ e _ _ S
  · split at e
    · obtain ⟨ma, e1, e⟩ := bind_some e
      obtain ⟨mb, e2, e⟩ := bind_some e
      cases e
      exact r_nbin of_mul (h.e _ _ _ e1 _ _ S) (h.e _ _ _ e2 _ _ S)
    · exact h.e _ _ _ e _ _ S
  · exact h.e _ _ _ e _ _ S
theorem comp_okN (h : Snd cl F k r) {elt tgt iter : Expr} {ifs : List Expr} {scope : Scope} {p : Pos} {m : Ex} (e : stComp r c elt tgt iter ifs scope = some m) (S : Sit cl F k c W' X) : PEm cl W' F X (.ListComp elt [⟨tgt, iter, ifs, 0⟩] scope p) (toN m) := by
  unfold stComp at e
  dsimp only at e
  split at e
  rotate_left
  · cases e
  rename_i q
  obtain ⟨q1, q2, q3⟩ := q
  obtain ⟨it, e1, e⟩ := bind_some e
  obtain ⟨tg, e2, e⟩ := bind_some e
  obtain ⟨t, e3, e⟩ := bind_some e
  obtain ⟨el, e4, e⟩ := bind_some e
  split at e
  rotate_left
  · cases e
  rename_i q4
  cases e
  refine r_compN S.calm (by rw [S.hN]; exact S.nd) (h.i _ _ _ _ e1 _ _ S) (by rw [S.hN, S.hsc]; exact blkOk_by q1) (fun s H C cs fp => h.g _ _ _ e2 _ _ (S.blk q2 s H C cs fp)) (fun s H C cs fp => ?_) (fun s H C cs fp => h.e _ _ _ e4 _ _ (S.blk q2 s H C cs fp)) (fold_ok q3) fun i hi => List.contains_iff_mem.mp (List.all_eq_true.mp q4 i hi)
  unfold stIfs at e3
  split at e3
  · cases e3
    exact rts_nil
  · exact rts_one (h.t _ _ _ e3 _ _ (S.blk q2 s H C cs fp))
  · cases e3
theorem ret_ok (h : Snd cl F k r) {a : Expr} {m : Ex} (e : stRet r c a = some m) (S : Sit cl F k c W' X) : PEm cl W' F X a m := by
  unfold stRet at e
  split at e
  · split at e
    · obtain ⟨ms, e1, e⟩ := bind_some e
      cases e
      exact r_rtup (h.es _ _ _ e1 _ _ S)
    · exact h.e _ _ _ e _ _ S
  · split at e
    · obtain ⟨m1, e1, e2⟩ := Option.map_eq_some_iff.mp e
      subst e2
      exact comp_okN h e1 S
    · exact h.e _ _ _ e _ _ S
  · split at e
    · obtain ⟨ms, e1, e⟩ := bind_some e
      cases e
      exact r_nlst (h.es _ _ _ e1 _ _ S)
    · exact h.e _ _ _ e _ _ S
  · exact h.e _ _ _ e _ _ S
theorem names_at (S : Sit cl F k c W' X) : ∀ {ts : List Expr} {is : List Nat}, tgIdx c ts = some is → NamesAt X ts is
  | [], is, e => by
    cases e
    exact .nil
  | t :: ts, is, e => by
    cases t with
    | Name x p =>
      have e : (if c.tgt x = true then (idx c.N x).bind fun i => (tgIdx c ts).map fun is => i :: is else none) = some is := e
      split at e
      · rename_i q
        obtain ⟨i, e1, e⟩ := Option.bind_eq_some_iff.mp e
        obtain ⟨js, e2, e3⟩ := Option.map_eq_some_iff.mp e
        subst e3
        obtain ⟨t1, t2⟩ := tgt_ok S q
        exact .cons (by rw [S.hN]; exact idx_at e1) t1 t2 (names_at S e2)
      · cases e
    | _ => cases e
theorem vals_ok (h : Snd cl F k r) (S : Sit cl F k c W' X) : ∀ {ts vs : List Expr} {ms : Exs}, valEs r c ts vs = some ms → PAm cl W' F X vs ms
  | [], [], ms, e => by
    unfold valEs at e
    cases e
    exact ra_nil
  | [], v :: vs, ms, e => by
    unfold valEs at e
    cases e
  | t :: ts, [], ms, e => by
    unfold valEs at e
    cases t <;> cases e
  | t :: ts, v :: vs, ms, e => by
    cases t with
    | Name x p =>
      have e : (if noStar v = true then (stVal r c x v).bind fun m => (valEs r c ts vs).bind fun ms => some (Exs.cons m ms) else none) = some ms := e
      split at e
      · rename_i q
        obtain ⟨m, e1, e⟩ := Option.bind_eq_some_iff.mp e
        obtain ⟨ms', e2, e⟩ := Option.bind_eq_some_iff.mp e
        cases e
        exact ra_cons (val_ok h e1 S) (vals_ok h S e2) (star_not q)
      · cases e
    | _ => cases e
theorem sole_not {t v : Expr} {line : Nat} {env : Env} (h : noComp v = true) : swapsWithSole [t] v line env = pure false := by
  cases v <;> first | rfl | cases h
theorem each_one {t : Expr} {env : Env} (h : noStar t = true) : (assignEach [t] env).map (·.2) = [assign t env] := each_not h
theorem sw_none1 {t v : Expr} {env : Env} (h : isTgtPlain t = true) : swappedStores [t] v env = pure none := by
  cases t <;> first | rfl | cases h
theorem sw_none2 {ts : List Expr} {k0 : Nat} {p : Pos} {v : Expr} {env : Env} (h : isTupE v = false) : swappedStores [.Tuple ts k0 p] v env = pure none := by
  cases v <;> first | rfl | cases h
theorem Sit.bk (S : Sit cl F k c W' X) : X.env.blockKind = .function := by
  unfold Env.blockKind
  rw [S.hsc, S.fun_]
  rfl
theorem kind_L (S : Sit cl F k c W' X) {x : Str} : (X.env.kindOf x == some .local) = c.isL x := by
  unfold Env.kindOf Cc.isL
  rw [S.hsc]
  cases q : c.sc.names.lookup x with
  | none => rfl
  | some z => cases z <;> rfl
theorem any_not {f : Expr → Bool} (hf : ∀ e, noStar e = true → f e = false) : ∀ {vs : List Expr}, noStars vs = true → vs.any f = false
  | [], _ => rfl
  | e :: r, h => by
    unfold noStars at h
    have h := Bool.and_eq_true_iff.mp h
    rw [List.any_cons, hf e h.1, any_not hf h.2]
    rfl
theorem names_two {f : Expr → Option Str} {a b : Expr} {x y : Str} (h1 : f a = some x) (h2 : f b = some y) : [a, b].filterMap f = [x, y] := by
  simp [List.filterMap_cons, h1, h2]
theorem sw_yes (S : Sit cl F k c W' X) {x y : Str} {px py p p2 : Pos} {a b : Expr} {k0 k2 : Nat} (h : swN c x y px.line py.line a b = true) : swappedStores [.Tuple [.Name x px, .Name y py] k0 p] (.Tuple [a, b] k2 p2) X.env = pure (some [x, y]) := by
  unfold swN at h
  simp only [Bool.and_eq_true, Bool.not_eq_true', beq_iff_eq] at h
  obtain ⟨⟨⟨⟨⟨⟨⟨h1, h2⟩, h3⟩, h4⟩, h5⟩, h6⟩, h7⟩, h8⟩ := h
  have hs : noStars [a, b] = true := by unfold noStars noStars noStars; rw [h5, h6]; rfl
  have kx : (X.env.kindOf x == some .local) = true := by rw [kind_L S, h1]
  have ky : (X.env.kindOf y == some .local) = true := by rw [kind_L S, h2]
  have hne : ¬ y = x := fun e => by subst e; simp at h4
  unfold swappedStores
  dsimp only
  refine (if_neg ?_).trans ((if_neg ?_).trans ((if_neg ?_).trans ((if_neg ?_).trans ((if_neg ?_).trans ?_))))
  · simp [S.bk]
  · rw [any_not (fun e he => by cases e <;> first | rfl | cases he) hs]
    exact Bool.false_ne_true
  · have q1 : px.line = (Option.map (fun x => x.pos.line) [Expr.Name x px, Expr.Name y py].head?).getD 0 := rfl
    rw [names_two (x := x) (y := y) (by dsimp only; rw [kx, ← q1]; simp) (by dsimp only; rw [ky, ← q1, h3]; simp)]
    have hb : (y == x) = false := beq_eq_false_iff_ne.mpr hne
    simp [List.eraseDups, List.eraseDupsBy, List.eraseDupsBy.loop, hb]
  · rw [h7]; exact Bool.false_ne_true
  · rw [h8]; exact Bool.false_ne_true
  · have q1 : px.line = (Option.map (fun x => x.pos.line) [Expr.Name x px, Expr.Name y py].head?).getD 0 := rfl
    rw [names_two (x := x) (y := y) (by dsimp only; rw [kx, ← q1]; simp) (by dsimp only; rw [ky, ← q1, h3]; simp)]
theorem names_three {f : Expr → Option Str} {a b d : Expr} {x y z : Str} (h1 : f a = some x) (h2 : f b = some y) (h3 : f d = some z) : [a, b, d].filterMap f = [x, y, z] := by
  simp [List.filterMap_cons, h1, h2, h3]
theorem sw_yes3 (S : Sit cl F k c W' X) {x y z : Str} {px py pz p p2 : Pos} {a b d : Expr} {k0 k2 : Nat} (h : swN3 c x y z px.line py.line pz.line a b d = true) : swappedStores [.Tuple [.Name x px, .Name y py, .Name z pz] k0 p] (.Tuple [a, b, d] k2 p2) X.env = pure (some [x, y, z]) := by
  unfold swN3 at h
  simp only [Bool.and_eq_true, Bool.not_eq_true', beq_iff_eq] at h
  obtain ⟨⟨⟨⟨⟨⟨⟨⟨⟨⟨⟨⟨h1, h2⟩, h2z⟩, h3⟩, h3z⟩, h4⟩, h4b⟩, h4c⟩, h5⟩, h6⟩, h6d⟩, h7⟩, h8⟩ := h
  have hs : noStars [a, b, d] = true := by unfold noStars noStars noStars noStars; rw [h5, h6, h6d]; rfl
  have kx : (X.env.kindOf x == some .local) = true := by rw [kind_L S, h1]
  have ky : (X.env.kindOf y == some .local) = true := by rw [kind_L S, h2]
  have kz : (X.env.kindOf z == some .local) = true := by rw [kind_L S, h2z]
  have b1 : (y == x) = false := beq_eq_false_iff_ne.mpr fun e => by subst e; simp at h4
  have b2 : (z == x) = false := beq_eq_false_iff_ne.mpr fun e => by subst e; simp at h4b
  have b3 : (z == y) = false := beq_eq_false_iff_ne.mpr fun e => by subst e; simp at h4c
  unfold swappedStores
  dsimp only
  have q1 : px.line = (Option.map (fun x => x.pos.line) [Expr.Name x px, Expr.Name y py, Expr.Name z pz].head?).getD 0 := rfl
  refine (if_neg ?_).trans ((if_neg ?_).trans ((if_neg ?_).trans ((if_neg ?_).trans ((if_neg ?_).trans ?_))))
  · simp [S.bk]
  · rw [any_not (fun e he => by cases e <;> first | rfl | cases he) hs]
    exact Bool.false_ne_true
  · rw [names_three (x := x) (y := y) (z := z) (by dsimp only; rw [kx, ← q1]; simp) (by dsimp only; rw [ky, ← q1, h3]; simp) (by dsimp only; rw [kz, ← q1, h3z]; simp)]
    simp [List.eraseDups, List.eraseDupsBy, List.eraseDupsBy.loop, b1, b2, b3]
  · rw [h7]; exact Bool.false_ne_true
  · rw [h8]; exact Bool.false_ne_true
  · rw [names_three (x := x) (y := y) (z := z) (by dsimp only; rw [kx, ← q1]; simp) (by dsimp only; rw [ky, ← q1, h3]; simp) (by dsimp only; rw [kz, ← q1, h3z]; simp)]
theorem names_all {f : Expr → Option Str} : ∀ {l : List Expr}, (l.filterMap f).length = l.length → ∀ e ∈ l, f e ≠ none
  | a :: r, h, e, he => by
    have le := List.length_filterMap_le f r
    rw [List.filterMap_cons] at h
    cases q : f a with
    | none =>
      rw [q] at h
      simp only [List.length_cons] at h
      omega
    | some z =>
      rw [q] at h
      simp only [List.length_cons] at h
      cases he with
      | head => rw [q]; exact fun z => by cases z
      | tail _ he => exact names_all (by omega) e he
theorem sw_no (S : Sit cl F k c W' X) {ts vs : List Expr} {p p2 : Pos} {k0 k2 : Nat} (h : swO c ts vs = true) : swappedStores [.Tuple ts k0 p] (.Tuple vs k2 p2) X.env = pure none := by
  unfold swappedStores
  dsimp only
  unfold swO at h
  by_cases c1 : (!(ts.length == 2 || ts.length == 3) || vs.length != ts.length || X.env.blockKind != .function) = true
  · exact if_pos c1
  refine (if_neg c1).trans ?_
  have c2 : (!(ts.length == 2 || ts.length == 3) || vs.length != ts.length) = false := by
    cases q : (!(ts.length == 2 || ts.length == 3) || vs.length != ts.length) with
    | false => rfl
    | true => rw [q] at c1; exact absurd rfl c1
  rw [c2, Bool.false_or] at h
  have h := Bool.and_eq_true_iff.mp h
  refine (if_neg ?_).trans ?_
  · rw [any_not (fun e he => by cases e <;> first | rfl | cases he) h.1]
    exact Bool.false_ne_true
  rcases Bool.or_eq_true_iff.mp h.2 with h2 | h2
  · refine if_pos ?_
    refine Bool.or_eq_true_iff.mpr (.inl ?_)
    obtain ⟨e, he, hc⟩ := List.any_eq_true.mp h2
    refine bne_iff_ne.mpr fun q => names_all q e he ?_
    cases e with
    | Name x px =>
      have hc : (!c.isL x) = true := hc
      have : (X.env.kindOf x == some .local) = false := by rw [kind_L S]; simpa using hc
      dsimp only
      rw [this]
      simp
    | _ => rfl
  · by_cases c3 : (((ts.filterMap fun
    | .Name id pos => if X.env.kindOf id == some .local && pos.line == (ts.head?.map (·.pos.line)).getD 0 then some id else none
    | _ => none)).length != ts.length || ((ts.filterMap fun
    | .Name id pos => if X.env.kindOf id == some .local && pos.line == (ts.head?.map (·.pos.line)).getD 0 then some id else none
    | _ => none)).eraseDups.length != ((ts.filterMap fun
    | .Name id pos => if X.env.kindOf id == some .local && pos.line == (ts.head?.map (·.pos.line)).getD 0 then some id else none
    | _ => none)).length) = true
    · exact if_pos c3
    · exact (if_neg c3).trans (if_pos h2)
/-- a comprehension that stores itself -/
theorem sw_comp (S : Sit cl F k c W' X) {y : Str} {py p : Pos} {elt : Expr} {gens : List Comprehension} {scope : Scope} {line : Nat} : swapsWith (.ListComp elt gens scope p) (some (.Name y py)) line X.env = pure (swL c y py.line p.line scope) := by
  unfold swapsWith swL
  show (pure _ : Sem Bool) = pure _
  rw [kind_L S, S.bk]
  rfl
theorem asg_ok (h : Snd cl F k r) {t v : Expr} {p : Pos} {m : Sm} (e : stAsg r c t v p.line = some m) (S : Sit cl F k c W' X) : PSm cl W' F X (.Assign [t] v p) m := by
  unfold stAsg at e
  split at e
  · rename_i y py elt tgt iter ifs scope p2
    obtain ⟨mc, e1, e⟩ := bind_some e
    obtain ⟨g, e2, e⟩ := bind_some e
    have hg := h.g _ _ _ e2 _ _ S
    split at e
    · rename_i q
      obtain ⟨i, e3, e⟩ := bind_some e
      split at e
      · rename_i j
        split at e
        · cases e
          have hl : c.isL y = true := by
            unfold swL at q
            simp only [Bool.and_eq_true] at q
            exact q.1.1
          -- the comprehension's parts
          unfold stComp at e1
          try dsimp only at e1
          split at e1
          rotate_left
          · cases e1
          rename_i q0
          obtain ⟨q1, q2, q3⟩ := q0
          obtain ⟨it, e4, e1⟩ := bind_some e1
          obtain ⟨tg, e5, e1⟩ := bind_some e1
          obtain ⟨tt, e6, e1⟩ := bind_some e1
          obtain ⟨el, e7, e1⟩ := bind_some e1
          split at e1
          rotate_left
          · cases e1
          rename_i q4
          cases e1
          have hT : ∀ (s : Shared) (H : Hp) (C : Addr) (cs : List (Str × Addr)) (fp : List Addr), PTs (X.blk s H scope (compEnvC scope cs C X.env) fp) ifs (rdT cl X.K WF fun τ S => evT F τ S tt) := fun s H C cs fp => by
            unfold stIfs at e6
            split at e6
            · cases e6
              exact rts_nil
            · exact rts_one (h.t _ _ _ e6 _ _ (S.blk q2 s H C cs fp))
            · cases e6
          by_cases hn : c.nls.contains y = true
          · rw [if_pos hn]
            exact rs_setCN S.calm (by rw [S.hN]; exact S.nd) (by rw [S.hN]; exact idx_at e3) (S.loc hl) (by rw [sw_comp S, q]) (h.i _ _ _ _ e4 _ _ S) (by rw [S.hN, S.hsc]; exact blkOk_by q1) (fun s H C cs fp => h.g _ _ _ e5 _ _ (S.blk q2 s H C cs fp)) hT (fun s H C cs fp => h.e _ _ _ e7 _ _ (S.blk q2 s H C cs fp)) (fold_ok q3) fun i hi => List.contains_iff_mem.mp (List.all_eq_true.mp q4 i hi)
          · rw [if_neg hn]
            exact rs_setC S.calm (by rw [S.hN]; exact S.nd) (by rw [S.hN]; exact idx_at e3) (S.loc hl) (by rw [sw_comp S, q]) (h.i _ _ _ _ e4 _ _ S) (by rw [S.hN, S.hsc]; exact blkOk_by q1) (fun s H C cs fp => h.g _ _ _ e5 _ _ (S.blk q2 s H C cs fp)) hT (fun s H C cs fp => h.e _ _ _ e7 _ _ (S.blk q2 s H C cs fp)) (fold_ok q3) fun i hi => List.contains_iff_mem.mp (List.all_eq_true.mp q4 i hi)
        · cases e
      · cases e
    · rename_i q
      cases e
      refine rs_asg hg (comp_ok h e1 S) ?_ (sw_none1 rfl) rfl
      rw [Bool.not_eq_true] at q
      refine Eq.trans (b := swapsWith (.ListComp elt [⟨tgt, iter, ifs, 0⟩] scope p2) (some (.Name y py)) p.line X.env) rfl ?_
      rw [sw_comp S, q]
  · rename_i y py elt tgt iter tgt1 iter1 ifs1 scope p2
    obtain ⟨mc, e1, e⟩ := bind_some e
    obtain ⟨g, e2, e⟩ := bind_some e
    have hg := h.g _ _ _ e2 _ _ S
    split at e
    · rename_i q
      obtain ⟨i, e3, e⟩ := bind_some e
      split at e
      · rename_i j
        split at e
        · cases e
          have hl : c.isL y = true := by
            unfold swL at q
            simp only [Bool.and_eq_true] at q
            exact q.1.1
          unfold stComp2 at e1
          try dsimp only at e1
          split at e1
          rotate_left
          · cases e1
          rename_i q0
          obtain ⟨q1, q2, q3, q4⟩ := q0
          obtain ⟨it, e4, e1⟩ := bind_some e1
          obtain ⟨tg, e5, e1⟩ := bind_some e1
          obtain ⟨it1, e6, e1⟩ := bind_some e1
          obtain ⟨tg1, e7, e1⟩ := bind_some e1
          obtain ⟨tt, e8, e1⟩ := bind_some e1
          obtain ⟨el, e9, e1⟩ := bind_some e1
          split at e1
          rotate_left
          · cases e1
          rename_i q5
          cases e1
          refine rs_setC2 S.calm (by rw [S.hN]; exact S.nd) (by rw [S.hN]; exact idx_at e3) (S.loc hl) (by rw [sw_comp S, q]) (h.i _ _ _ _ e4 _ _ S) (by rw [S.hN, S.hsc]; exact blkOk_by q1) (fun i hi => List.contains_iff_mem.mp (List.all_eq_true.mp q5.2 i hi)) (fun s H C cs fp => h.g _ _ _ e5 _ _ (S.blk q2 s H C cs fp)) (fun s H C cs fp => h.i _ _ _ _ e6 _ _ (S.blk q2 s H C cs fp)) (fun s H C cs fp => h.g _ _ _ e7 _ _ (S.blk q2 s H C cs fp)) (fun s H C cs fp => ?_) (fun s H C cs fp => h.e _ _ _ e9 _ _ (S.blk q2 s H C cs fp)) (fold_ok q3) (fun env => fold_ok q4) (fun i hi => List.contains_iff_mem.mp (List.all_eq_true.mp q5.1 i hi)) fun i hi => hi
          unfold stIfs at e8
          split at e8
          · cases e8
            exact rts_nil
          · exact rts_one (h.t _ _ _ e8 _ _ (S.blk q2 s H C cs fp))
          · cases e8
        · cases e
      · cases e
    · rename_i q
      cases e
      refine rs_asg hg (comp2_ok h e1 S) ?_ (sw_none1 rfl) rfl
      rw [Bool.not_eq_true] at q
      refine Eq.trans (b := swapsWith (.ListComp elt [⟨tgt, iter, [], 0⟩, ⟨tgt1, iter1, ifs1, 0⟩] scope p2) (some (.Name y py)) p.line X.env) rfl ?_
      rw [sw_comp S, q]
  · rename_i x px y py k0 p1 a b k2 p2
    split at e
    · rename_i q
      obtain ⟨ma, e1, e⟩ := bind_some e
      obtain ⟨mb, e2, e⟩ := bind_some e
      obtain ⟨i, e3, e⟩ := bind_some e
      obtain ⟨j, e4, e⟩ := bind_some e
      split at e
      rotate_left
      · cases e
      rename_i hij
      cases e
      have q0 := q
      unfold swN at q
      simp only [Bool.and_eq_true, Bool.not_eq_true', beq_iff_eq] at q
      obtain ⟨⟨⟨⟨⟨⟨⟨h1, h2⟩, h3⟩, h4⟩, h5⟩, h6⟩, h7⟩, h8⟩ := q
      exact rs_par S.calm (by rw [S.hN]; exact S.nd) (by rw [S.hN]; exact idx_at e3) (by rw [S.hN]; exact idx_at e4) hij (S.loc h1) (S.loc h2) (val_ok h e1 S) (val_ok h e2 S) (star_not h5) (star_not h6) (sw_yes S q0) (sole_not rfl)
    · split at e
      · rename_i q
        split at e
        · split at e
          · rename_i q3
            obtain ⟨c1, c2, c3, c4⟩ := q3
            obtain ⟨ma, e1, e⟩ := bind_some e
            obtain ⟨mb, e2, e⟩ := bind_some e
            obtain ⟨i, e3, e⟩ := bind_some e
            obtain ⟨j, e4, e⟩ := bind_some e
            cases e
            obtain ⟨t1, t2⟩ := tgt_ok S c1
            obtain ⟨t3, t4⟩ := tgt_ok S c2
            exact rs_parO S.calm (by rw [S.hN]; exact S.nd) (by rw [S.hN]; exact idx_at e3) (by rw [S.hN]; exact idx_at e4) t1 t3 t2 t4 (val_ok h e1 S) (val_ok h e2 S) (star_not c3) (star_not c4) (sw_no S q) (sole_not rfl) (each_one rfl)
          · cases e
        · obtain ⟨g, e1, e⟩ := bind_some e
          obtain ⟨m1, e2, e⟩ := bind_some e
          cases e
          exact rs_asg (h.g _ _ _ e1 _ _ S) (h.e _ _ _ e2 _ _ S) (sole_not rfl) (sw_no S q) (each_one rfl)
      · cases e
  · rename_i x px y py z pz k0 p1 a b d k2 p2
    split at e
    · rename_i q
      obtain ⟨ma, e1, e⟩ := bind_some e
      obtain ⟨mb, e2, e⟩ := bind_some e
      obtain ⟨md, e2d, e⟩ := bind_some e
      obtain ⟨i, e3, e⟩ := bind_some e
      obtain ⟨j, e4, e⟩ := bind_some e
      obtain ⟨n, e5, e⟩ := bind_some e
      split at e
      rotate_left
      · cases e
      rename_i hij
      cases e
      have q0 := q
      unfold swN3 at q
      simp only [Bool.and_eq_true, Bool.not_eq_true', beq_iff_eq] at q
      obtain ⟨⟨⟨⟨⟨⟨⟨⟨⟨⟨⟨⟨h1, h2⟩, h2z⟩, h3⟩, h3z⟩, h4⟩, h4b⟩, h4c⟩, h5⟩, h6⟩, h6d⟩, h7⟩, h8⟩ := q
      exact rs_par3 S.calm (by rw [S.hN]; exact S.nd) (by rw [S.hN]; exact idx_at e3) (by rw [S.hN]; exact idx_at e4) (by rw [S.hN]; exact idx_at e5) hij.1 hij.2.1 hij.2.2 (S.loc h1) (S.loc h2) (S.loc h2z) (val_ok h e1 S) (val_ok h e2 S) (val_ok h e2d S) (star_not h5) (star_not h6) (star_not h6d) (sw_yes3 S q0) (sole_not rfl)
    · split at e
      · rename_i q
        obtain ⟨g, e1, e⟩ := bind_some e
        obtain ⟨m1, e2, e⟩ := bind_some e
        cases e
        exact rs_asg (h.g _ _ _ e1 _ _ S) (h.e _ _ _ e2 _ _ S) (sole_not rfl) (sw_no S q) (each_one rfl)
      · cases e
  · split at e
    · rename_i q
      split at e
      · obtain ⟨is, e1, e⟩ := bind_some e
        obtain ⟨ms, e2, e⟩ := bind_some e
        split at e
        · rename_i q2
          cases e
          obtain ⟨p1, p2⟩ := each_plain (env := X.env) q2.1
          exact rs_asg (rg_us S.calm (by rw [S.hN]; exact S.nd) (names_at S e1) (by rw [p1, q2.2]) p2) (r_rtup (vals_ok h S e2)) (sole_not rfl) (sw_no S q) (each_one rfl)
        · cases e
      · obtain ⟨g, e1, e⟩ := bind_some e
        obtain ⟨m1, e2, e⟩ := bind_some e
        cases e
        exact rs_asg (h.g _ _ _ e1 _ _ S) (h.e _ _ _ e2 _ _ S) (sole_not rfl) (sw_no S q) (each_one rfl)
    · cases e
  · split at e
    · rename_i q
      obtain ⟨g, e1, e⟩ := bind_some e
      obtain ⟨m1, e2, e⟩ := bind_some e
      cases e
      exact rs_asg (h.g _ _ _ e1 _ _ S) (val_ok h e2 S) (sole_not q) (sw_none1 rfl) (each_one rfl)
    · cases e
  · split at e
    · rename_i q
      obtain ⟨g, e1, e⟩ := bind_some e
      obtain ⟨m1, e2, e⟩ := bind_some e
      cases e
      exact rs_asg (h.g _ _ _ e1 _ _ S) (h.e _ _ _ e2 _ _ S) (sole_not q.1) (sw_none2 q.2) (each_one rfl)
    · cases e
  · split at e
    · rename_i q
      obtain ⟨g, e1, e⟩ := bind_some e
      obtain ⟨m1, e2, e⟩ := bind_some e
      cases e
      exact rs_asg (h.g _ _ _ e1 _ _ S) (h.e _ _ _ e2 _ _ S) (sole_not q) (sw_none1 rfl) (each_one rfl)
    · cases e
  · cases e
theorem stepS_ok (h : Snd cl F k r) {a : Stmt} {m : Sm} (e : stepS r c a = some m) (hr : c.raw = none) (S : Sit cl F k c W' X) : PSm cl W' F X a m := by
  unfold stepS at e
  split at e
  · cases e
    exact rs_doc
  · obtain ⟨m1, e1, e⟩ := bind_some e
    cases e
    exact rs_ex (h.e _ _ _ e1 _ _ S) rfl
  · exact asg_ok h e S
  · split at e
    · rename_i q
      obtain ⟨g, e1, e⟩ := bind_some e
      obtain ⟨i, e2, e⟩ := bind_some e
      obtain ⟨m1, e3, e⟩ := bind_some e
      cases e
      obtain ⟨t1, t2⟩ := tgt_ok S q
      exact rs_aug (by rw [S.hN]; exact S.nd) (by rw [S.hN]; exact idx_at e2) t1 (h.e _ _ _ e3 _ _ S) (iopG_ok e1) t2
    · cases e
  · cases e
    exact rs_retN
  · obtain ⟨m1, e1, e⟩ := bind_some e
    cases e
    exact rs_ret (ret_ok h e1 S)
  · obtain ⟨mt, e1, e⟩ := bind_some e
    obtain ⟨ma, e2, e⟩ := bind_some e
    obtain ⟨mb, e3, e⟩ := bind_some e
    cases e
    exact rs_if (h.t _ _ _ e1 _ _ S) (h.b _ _ _ e2 hr _ _ S) (h.b _ _ _ e3 hr _ _ S)
  · split at e
    · rename_i q
      obtain ⟨g, e1, e⟩ := bind_some e
      obtain ⟨mi, e2, e⟩ := bind_some e
      obtain ⟨mb, e3, e⟩ := bind_some e
      cases e
      exact rs_for (S.hp hr) S.calm (h.i _ _ _ _ e2 _ _ S) (h.g _ _ _ e1 _ _ S) (h.b _ _ _ e3 hr _ _ S) (fold_ok q)
    · cases e
  · obtain ⟨mt, e1, e⟩ := bind_some e
    obtain ⟨mb, e2, e⟩ := bind_some e
    cases e
    exact rs_while (S.hp hr) (h.t _ _ _ e1 _ _ S) (h.b _ _ _ e2 hr _ _ S)
  · cases e
    exact rs_pass
  · cases e
    exact rs_brk
  · cases e
    exact rs_cnt
  · cases e
    exact bad_ok
  · cases e
theorem stepB_ok (h : Snd cl F k r) {a : List Stmt} {m : Bk} (e : stepB r c a = some m) (hr : c.raw = none) (S : Sit cl F k c W' X) : PBm cl W' F X a m := by
  unfold stepB at e
  split at e
  · cases e
    exact rb_nil
  · obtain ⟨m1, e1, e⟩ := bind_some e
    obtain ⟨m2, e2, e⟩ := bind_some e
    cases e
    exact rb_cons (h.s _ _ _ e1 hr _ _ S) (h.b _ _ _ e2 hr _ _ S)
theorem snd_step (h : Snd cl F k r) (h0 : r.nil0) : Snd cl F k r.step where
  e := fun c a m e W' X S => stepE_ok h h0 e S
  es := fun c a m e W' X S => stepEs_ok h e S
  ks := fun c a m e W' X S => stepKs_ok h e S
  t := fun c a m e W' X S => stepT_ok h e S
  w := fun c a m e W' X S => stepW_ok h e S
  i := fun c tg a m e W' X S => stepI_ok h e S
  g := fun c a m e W' X S => stepG_ok h e S
  gs := fun c a m e W' X S => stepGs_ok h e S
  s := fun c a m e hr W' X S => stepS_ok h e hr S
  b := fun c a m e hr W' X S => stepB_ok h e hr S
theorem nil0_rec : ∀ n, (rec_ n).nil0
  | 0 => fun c ms e => by cases e
  | n + 1 => fun c ms e => by
    have e : stepEs (rec_ n) c [] = some ms := e
    cases e
    rfl
theorem snd_rec : ∀ n, Snd cl F k (rec_ n)
  | 0 => ⟨(fun _ _ _ e => by cases e), (fun _ _ _ e => by cases e), (fun _ _ _ e => by cases e), (fun _ _ _ e => by cases e), (fun _ _ _ e => by cases e), (fun _ _ _ _ e => by cases e), (fun _ _ _ e => by cases e), (fun _ _ _ e => by cases e), (fun _ _ _ e => by cases e), (fun _ _ _ e => by cases e)⟩
  | n + 1 => snd_step (snd_rec n) (nil0_rec n)
end
end Ft
namespace Ft
variable [Wd]
open PySem PySem.Spec L2
open PyProof.Rows hiding St
/-- a def of the table -/
structure Dn where
  nm : Str
  ix : Nat
  ps : List Str
  params : Arguments
  stmts : List Stmt
  scope : Scope
  N : List Str
  kws : List (Nat × List Str × List Nat)
  frz : List Str
  nls : List Str
  retn : Bool
  dcs : List Str := []
  rls : List Str := []
  fn : Fn
def Dn.dd (d : Dn) : He.DefD := ⟨(d.nm, none), d.nm, d.nm, d.params, d.stmts, d.scope, [], []⟩
def Dn.bindF (d : Dn) (kV doc pm : Value) (an : Option Addr) (cdv ct : Value) : FuncData := PySem.W.fnOf d.nm d.nm d.params d.stmts d.scope .none kV doc pm an cdv ct
/-- the module's things -/
structure Md where
  ds : List Dn
  glo : List (Str × D)
  free : List Str
def feOf (ds : List Dn) : List Fe := ds.map fun d => ⟨d.nm, d.ix, d.fn.np, d.kws⟩
def Md.cc (m : Md) (d : Dn) : Cc := { N := d.N, sc := d.scope, raw := none, fns := feOf m.ds, glo := m.glo, free := m.free, frz := d.frz, nls := d.nls, retn := d.retn, dcs := d.dcs, rls := d.rls }
def noFree (s : Scope) : Bool := s.names.all fun y => match y.2 with
  | .free => false
  | _ => true
def scopeOk (d : Dn) : Bool := (match d.scope.kind with | .function => true | _ => false) && !d.scope.isCoroutine && !d.scope.isGenerator && decide d.N.Nodup && decide (d.N.take d.ps.length = d.ps) &&
  (d.ps.all fun x => match d.scope.names.lookup x with
    | some .local => true
    | some .cell => true
    | _ => false) && noFree d.scope && decide (d.ps.length = d.fn.np) && decide (d.N.length = d.fn.ns) && (d.fn.np ≤ d.fn.ns)
theorem scopeOk_fn {d : Dn} (h : scopeOk d = true) : FnScope d.N d.ps d.scope ∧ d.ps.length = d.fn.np ∧ d.N.length = d.fn.ns := by
  unfold scopeOk at h
  simp only [Bool.and_eq_true, Bool.not_eq_true', decide_eq_true_eq] at h
  obtain ⟨⟨⟨⟨⟨⟨⟨⟨⟨h1, h2⟩, h3⟩, h4⟩, h5⟩, h6⟩, h7⟩, h8⟩, h9⟩, h11⟩ := h
  refine ⟨⟨?_, h2, h3, h4, h5, fun x hx => ?_, fun y hy e => ?_⟩, h8, h9⟩
  · split at h1
    · assumption
    · cases h1
  · have := List.all_eq_true.mp h6 x hx
    split at this
    · exact .inl (by assumption)
    · exact .inr (by assumption)
    · cases this
  · unfold noFree at h7
    have := List.all_eq_true.mp h7 y hy
    rw [e] at this
    cases this
/-- what is checked of a def's text -/
structure DnOk (m : Md) (d : Dn) : Prop where
  sc : scopeOk d = true
  body : (rec_ 200).b (m.cc d) d.stmts = some d.fn.body
  bnd : ∀ (kV doc pm : Value) (an : Option Addr) (cdv ct : Value) (us : List Value), us.length = d.fn.np → bindArgs (d.bindF kV doc pm an cdv ct) ⟨us, []⟩ = pure (d.ps.zip us)
  bndk : ∀ q ∈ d.kws, ∀ (kV doc pm : Value) (an : Option Addr) (cdv ct : Value) (us uk : List Value), us.length = q.1 → uk.length = q.2.1.length → ∃ uz, pickA (us ++ uk) q.2.2 = some uz ∧ bindArgs (d.bindF kV doc pm an cdv ct) ⟨us, q.2.1.zip uk⟩ = pure (d.ps.zip uz)
theorem begin_lr {K : PySem.W.Frag} {φ : Ms} {H : Hp} {ws : List W} {vs : List V} {N : List Str} {n : Nat} (h : WRs K φ H ws vs) (hn : N.length = n) : LR K φ H (begin_ n ws) (L2.start N vs) := by
  refine ⟨?_, fun i w e => ?_⟩
  · unfold begin_ L2.start
    simp only [List.length_append, List.length_map, List.length_replicate, h.len, hn]
  · unfold begin_ at e
    unfold L2.start
    by_cases hi : i < ws.length
    · rw [List.getElem?_append_left (by simpa using hi), List.getElem?_map] at e
      rw [List.getElem?_append_left (by simpa [← h.len] using hi), List.getElem?_map]
      cases q : ws[i]? with
      | none => rw [q] at e; cases e
      | some w' =>
        rw [q] at e
        cases e
        obtain ⟨v, e1, e2⟩ := wrs_get h q
        exact ⟨v, by rw [e1]; rfl, e2⟩
    · rw [List.getElem?_append_right (by simpa using Nat.le_of_not_lt hi)] at e
      rw [List.getElem?_replicate] at e
      split at e <;> cases e
theorem run_out {cl : Nat → Addr} {K : PySem.W.Frag} {E : XK} {fd : Fn} {F : Fs} {ws : List W} {S : Sto} {φ : Ms} {H : Hp} {Q : VK} (h : Out cl K (fun cls d _ H' => E cls d H') (WR K) [] φ H (fd.run F ws S) Q) :
    OutS cl K (fun cls d _ H' => E cls d H') φ H (exs F (begin_ fd.ns ws) S fd.body) { nx := fun _ H' => Q .non H', rt := Q } := by
  unfold Fn.run at h
  cases q : exs F (begin_ fd.ns ws) S fd.body with
  | no => rw [q] at h; exact h.elim
  | exc e S1 => rw [q] at h; exact h.elim
  | ok f S1 =>
    rw [q] at h
    cases f with
    | nx τ => exact fun φ' H' σ n s l => h φ' .non H' n s .non
    | ret w => exact fun φ' H' v n s r => h φ' v H' n s r
    | brk τ => exact False.elim h
    | cnt τ => exact False.elim h
    | rs τ e => exact fun φ' H' σ cls dd n s l ev => h φ' cls dd H' n s ev
/-- where the program's defs stand -/
structure At (m : Md) (K : PySem.W.Frag) (mg : Str → Option Value) : Prop where
  defs : ∀ d ∈ m.ds, ∃ f fd, FunD K d.nm d.nm d.params d.stmts d.scope [] [] f fd ∧ mg d.nm = some (.ref f)
  glo : ∀ g ∈ m.glo, GlP K mg g
  free : ∀ x ∈ m.free, mg x = none
theorem feOf_mem {ds : List Dn} {e : Fe} (h : e ∈ feOf ds) : ∃ d, d ∈ ds ∧ e = ⟨d.nm, d.ix, d.fn.np, d.kws⟩ := by
  obtain ⟨d, h1, h2⟩ := List.mem_map.mp h
  exact ⟨d, h1, h2.symm⟩
section
variable {P : Program} {w : World} {K : PySem.W.Frag} {mg : Str → Option Value} {base : Heap} {m : Md} {cl : Nat → Addr}
theorem fe_ok {G : Tbl} (hT : ∀ d ∈ m.ds, G d.ix = some d.fn) (hm : ∀ d ∈ m.ds, DnOk m d) (A : At m K mg) {k : Nat} (IH : ∀ d, d ∈ m.ds → ∀ f fd, FunD K d.nm d.nm d.params d.stmts d.scope [] [] f fd → FnG P w K mg base k f fd d.ps (spI cl K d.fn.np (calls G k d.ix))) : ∀ e ∈ feOf m.ds, FnP P w K mg base cl (calls G k) k e := fun e he => by
  obtain ⟨d, hd, e2⟩ := feOf_mem he
  subst e2
  obtain ⟨f, fd, F, hmg⟩ := A.defs d hd
  obtain ⟨s1, s2, s3⟩ := scopeOk_fn (hm d hd).sc
  have GG := IH d hd f fd F
  obtain ⟨oc, od, dV, kV, doc, pm, an, cdv, ct, osl, rfl, lk, hcd, hD, _⟩ := F.ex
  obtain rfl : dV = .none := by
    rcases hD with ⟨_, e⟩ | ⟨e, _⟩
    · exact e
    · exact absurd rfl e
  refine ⟨⟨f, _, d.ps, hmg, F.kp, GG, s2, fun s us _ hl => .of_eq ((hm d hd).bnd kV doc pm an cdv ct us hl), fun q hq s us uk _ h1 h2 => ?_⟩, fun wz S hz => ?_⟩
  · obtain ⟨uz, b1, b2⟩ := (hm d hd).bndk q hq kV doc pm an cdv ct us uk h1 h2
    exact ⟨uz, b1, .of_eq b2⟩
  · cases k with
    | zero => rfl
    | succ k =>
      have : G d.ix = some d.fn := hT d hd
      unfold calls
      rw [this]
      dsimp only
      unfold Fn.call
      rw [if_neg hz]
theorem prog_ok {G : Tbl} (hw : w = Wd.w) (hT : ∀ d ∈ m.ds, G d.ix = some d.fn) (hm : ∀ d ∈ m.ds, DnOk m d) (A : At m K mg) : ∀ k d, d ∈ m.ds → ∀ f fd, FunD K d.nm d.nm d.params d.stmts d.scope [] [] f fd → FnG P w K mg base k f fd d.ps (spI cl K d.fn.np (calls G k d.ix))
  | 0, d, hd, f, fd, F => by
    obtain ⟨s1, s2, s3⟩ := scopeOk_fn (hm d hd).sc
    refine ⟨fun vs H Q E ⟨ws, S, φ, e, r, _⟩ => by rw [← r.len, e, s2], fun A outer s H args us vs Q E hr hg e0 hb rv ⟨ws, S, φ, e, r, sr, h⟩ => ?_⟩
    exact False.elim h
  | k + 1, d, hd, f, fd, F => by
    obtain ⟨s1, s2, s3⟩ := scopeOk_fn (hm d hd).sc
    have IH := prog_ok hw hT hm A k
    have hP := fe_ok (P := P) (w := w) (base := base) (cl := cl) hT hm A IH
    obtain ⟨oc, od, dV, kV, doc, pm, an, cdv, ct, osl, rfl, lk, hcd, hD, _⟩ := F.ex
    refine fn_g lk hcd s1 s2 fun A' outer s H vs Q E hr hg ⟨ws, S, φ, el, rw_, sr, h⟩ => ?_
    have ht : G d.ix = some d.fn := hT d hd
    unfold calls at h
    rw [ht] at h
    dsimp only at h
    unfold Fn.call at h
    rw [if_pos el] at h
    have he : ∃ (φc : Ms) (obs : Sto) (wz : List W), WRs K φc H wz vs ∧ SR K φc H obs ∧ Out cl K (fun cls d _ H' => E cls d H') (WR K) [] φc H (d.fn.run (calls G k) wz obs) Q := by
      by_cases s4 : d.fn.iso = true
      · rw [if_pos s4] at h
        obtain ⟨φc, obs, rc, sc, hc⟩ := iso_in sr rw_ h
        exact ⟨φc, obs, _, rc, sc, hc⟩
      · rw [if_neg s4] at h
        exact ⟨φ, S, ws, rw_, sr, h⟩
    obtain ⟨φc, obs, wz, rc, sc, hc⟩ := he
    let X : Cx := cxOf (L2.CX P w) P w K mg base d.N d.nm d.scope f cdv A' outer s H E
    have Si : Sit cl (calls G k) k (m.cc d) (fun cls d _ H => E cls d H) X := {
      hw := hw
      hN := rfl
      nd := s1.nd
      hsc := rfl
      fun_ := s1.kind
      calm := rfl
      room := hr
      grd := hg
      units := by have := hr.un; show (A'.deeper (envOfC d.nm d.scope s.heap.objs.size f cdv)).units + 200 < cLine; omega
      tk := takes_of rfl rfl rfl rfl
      hp := fun _ => passes_of rfl
      fns := hP
      glo := A.glo
      free := A.free
      fnx := fun _ _ => rfl }
    refine ⟨_, (snd_rec 200).b _ _ _ (hm d hd).body rfl _ _ Si, begin_ d.fn.ns wz, obs, φc, begin_lr rc s3, sc, run_out hc⟩
end
end Ft
namespace Ft
variable [Wd]
open PySem PySem.Spec L2
open PyProof.Rows hiding St
/-- a constant in the written part -/
def datB (K : PySem.W.Frag) : Nat → Value → D → Bool
  | _, .none, .none => true
  | _, .bool b, .bool c => decide (b = c)
  | _, .int i _, .int j => decide (i = j)
  | _, .str x _, .str y => decide (x = y)
  | n + 1, .ref a, .list ds => (match K.lookup a with
    | some ⟨.type c, none, .seq its _, _⟩ => decide (c = "list") && decide (its.size ≤ sizeLine) && decide (its.size = ds.length) && (its.toList.zip ds).all fun p => datB K n p.1 p.2
    | _ => false)
  | n + 1, .ref a, .tuple ds => (match K.lookup a with
    | some ⟨.type c, none, .seq its _, _⟩ => decide (c = "tuple") && decide (its.size ≤ sizeLine) && decide (its.size = ds.length) && (its.toList.zip ds).all fun p => datB K n p.1 p.2
    | _ => false)
  | _, _, _ => false
theorem dats_ok {K : PySem.W.Frag} {n : Nat} (ih : ∀ u d, datB K n u d = true → ∃ v, RelV v u ∧ ∀ H, Dp K H v d) : ∀ {us : List Value} {ds : List D}, us.length = ds.length → ((us.zip ds).all fun p => datB K n p.1 p.2) = true → ∃ vs, Vals vs us ∧ ∀ H, DpAll K H vs ds
  | [], [], _, _ => ⟨[], .nil, fun _ => .nil⟩
  | u :: us, d :: ds, hl, h => by
    simp only [List.zip_cons_cons, List.all_cons, Bool.and_eq_true] at h
    obtain ⟨v, r1, p1⟩ := ih u d h.1
    obtain ⟨vs, r2, p2⟩ := dats_ok ih (by simpa using hl) h.2
    exact ⟨v :: vs, .cons r1 r2, fun H => .cons (p1 H) (p2 H)⟩
theorem datB_ok {K : PySem.W.Frag} : ∀ n u d, datB K n u d = true → ∃ v, RelV v u ∧ ∀ H, Dp K H v d := by
  intro n
  induction n with
  | zero =>
    intro u d h
    unfold datB at h
    split at h
    · exact ⟨.non, rfl, fun _ => .non⟩
    · have h := of_decide_eq_true h
      subst h
      exact ⟨.bl _, rfl, fun _ => .bl _⟩
    · have h := of_decide_eq_true h
      subst h
      exact ⟨.int _, ⟨_, rfl⟩, fun _ => .int _⟩
    · have h := of_decide_eq_true h
      subst h
      exact ⟨.str _, ⟨_, rfl⟩, fun _ => .str _⟩
    · rename_i e; cases e
    · rename_i e; cases e
    · cases h
  | succ n ih =>
    intro u d h
    unfold datB at h
    split at h
    · exact ⟨.non, rfl, fun _ => .non⟩
    · have h := of_decide_eq_true h
      subst h
      exact ⟨.bl _, rfl, fun _ => .bl _⟩
    · have h := of_decide_eq_true h
      subst h
      exact ⟨.int _, ⟨_, rfl⟩, fun _ => .int _⟩
    · have h := of_decide_eq_true h
      subst h
      exact ⟨.str _, ⟨_, rfl⟩, fun _ => .str _⟩
    · rename_i n' a ds e
      cases e
      split at h
      · rename_i c its m osl q
        simp only [Bool.and_eq_true, decide_eq_true_eq] at h
        obtain ⟨⟨⟨h1, h2⟩, h3⟩, h4⟩ := h
        obtain ⟨vs, r, p⟩ := dats_ok ih (by simpa using h3) h4
        exact ⟨.ref a, rfl, fun H => .lst (.inr ⟨_, its, m, q, congrArg Value.type h1, rfl, rfl, h2, r⟩) (p H)⟩
      · cases h
    · rename_i n' a ds e
      cases e
      split at h
      · rename_i c its m osl q
        simp only [Bool.and_eq_true, decide_eq_true_eq] at h
        obtain ⟨⟨⟨h1, h2⟩, h3⟩, h4⟩ := h
        obtain ⟨vs, r, p⟩ := dats_ok ih (by simpa using h3) h4
        exact ⟨.ref a, rfl, fun H => .tup (.inr ⟨_, its, m, q, congrArg Value.type h1, rfl, h2, r⟩) (p H)⟩
      · cases h
    · cases h
theorem datB_tup {K : PySem.W.Frag} : ∀ n u d v, datB K n u d = true → RelV v u → tupW K v d := by
  intro n u d v h r ds hd
  subst hd
  cases n with
  | zero => cases u <;> simp [datB] at h
  | succ n =>
    cases u with
    | ref a =>
      rw [datB] at h
      split at h
      · rename_i c its m osl q
        simp only [Bool.and_eq_true, decide_eq_true_eq] at h
        cases v with
        | ref p =>
          cases r
          exact ⟨_, _, rfl, q, congrArg Value.type h.1.1.1, rfl⟩
        | _ => first | (cases r; done) | (obtain ⟨_, r⟩ := r; cases r)
      · cases h
    | _ => simp [datB] at h
/-- a module's constant -/
def gloB (K : PySem.W.Frag) (g : Str × D) : Bool := match PySem.W.nsIn K mainGlobals g.1 with
  | some (some u) => datB K 20 u g.2
  | _ => false
def chk (m : Md) (K : PySem.W.Frag) : Bool := (m.ds.all fun d => (He.Fa.glo d.nm).ok K) && (m.free.all fun x => (He.Fa.free x).ok K) && (m.glo.all fun g => gloB K g) && (m.ds.all fun d => d.dd.ok K)
def obsM (m : Md) (K : PySem.W.Frag) : He.AlD := (chk m K, m.ds.map fun d => He.fnW K (d.nm, none))
def valM (m : Md) : He.AlD := (true, m.ds.map fun d => d.dd.val)
def obsMG (n : Nat) (m : Md) (g : Addr → Option Obj) : He.AlD := obsM m (He.frG g (He.asD g n))
def hookM (n : Nat) (m : Md) : PySem.W.Hook where
  α := He.AlD
  obs := fun s => obsMG n m s.heap.get?
  val := fun _ => valM m
  says := fun _ h => ∃ K : PySem.W.Frag, K.In h ∧ obsM m K = valM m
  of := fun _ _ e => ⟨_, He.frG_in, e⟩
  keeps := fun _ _ _ ⟨K, hK, c⟩ k => ⟨K, PySem.W.Frag.In.keeps hK k, c⟩
theorem obsMG_eq {n : Nat} {m : Md} {g : Addr → Option Obj} {s : Shared} (h : ∀ a, g a = s.heap.get? a) : obsMG n m g = (hookM n m).obs s := by
  have e : g = s.heap.get? := funext h
  rw [e] <;> rfl
theorem at_of {m : Md} {K : PySem.W.Frag} {h : Heap} {mg : Str → Option Value} (kin : K.In h) (ns : h.Ns mainGlobals mg) (e : obsM m K = valM m) : At m K mg := by
  have c : chk m K = true := congrArg (fun z : He.AlD => z.1) e
  have e2 : (m.ds.map fun d => He.fnW K (d.nm, none)) = m.ds.map fun d => d.dd.val := congrArg (fun z : He.AlD => z.2) e
  unfold chk at c
  simp only [Bool.and_eq_true, List.all_eq_true] at c
  obtain ⟨⟨⟨c1, c2⟩, c3⟩, c4⟩ := c
  refine ⟨fun d hd => ?_, fun g hg => ?_, fun x hx => He.free_ok kin ns (c2 x hx)⟩
  · have e3 : He.fnW K d.dd.at_ = d.dd.val := List.map_inj_left.mp e2 d hd
    obtain ⟨fd, F⟩ := He.DefD.funD e3 (c4 d hd)
    exact ⟨_, fd, F, He.glo_ok kin ns (c1 d hd)⟩
  · have := c3 g hg
    unfold gloB at this
    split at this
    · rename_i u q
      obtain ⟨v, r, p⟩ := datB_ok _ _ _ this
      exact ⟨u, v, PySem.W.mg_of kin ns q, r, p, datB_tup _ _ _ _ this r⟩
    · cases this
theorem dps_ints_K {K : PySem.W.Frag} {H : Hp} : ∀ bs : List Int, DpAll K H (bs.map V.int) (bs.map PyData.int)
  | [] => .nil
  | _ :: r => .cons (.int _) (dps_ints_K r)
theorem no_hid {H : Hp} : Same H (hid ⟨[], [], []⟩ H) := fun a o e => hid_of (fun m => by rcases m with ⟨m, _⟩ | m <;> cases m) e
omit [Wd] in
/-- the law from the runs of the small language -/
theorem walk_ft {T : Tbl} {l : PySem.W.OpenLaw} {n k dep : Nat} {q : Program} {loose : List Str} {XP : (Str → Option Value) → Heap → Prop} {d : DefRec} {m : Md} {dn : Dn} {x : Str}
    (hn : l.most = some n) (hn2 : n ≤ sizeLine) (hdf : d.params.defaults = []) (hr : Room k callerA) (hT : ∀ d ∈ m.ds, T d.ix = some d.fn) (hm : ∀ d ∈ m.ds, DnOk m d) (hi : dn ∈ m.ds) (hnm : dn.nm = d.name) (hps : dn.ps = [x])
    (law : ∀ ns : List Int, ns.length ≤ n → ∃ S, calls T k dn.ix [.d (.list (ns.map .int))] [] = .ok (.d (.bool true)) S) :
    PySem.W.WalkO q loose XP (hookM dep m).says l.row.toRowW d [] (fun f vs => PySem.call f vs) := by
  refine Att.attach_call hn hdf fun w s₀ s₁ mg mb fa o pm cd doc a vs ns G Y ho hd hcd hmg hobj hints hlen hg => ?_
  letI : Wd := ⟨w⟩
  obtain ⟨K, KX, sy⟩ := Y
  have A : At m K mg := at_of KX G.T.g sy
  obtain ⟨f, fd, F, hf⟩ := A.defs dn hi
  rw [hnm, hmg] at hf
  cases hf
  have hF := fun base : Heap => prog_ok (P := l.prog) (w := w) (base := base) (cl := fun _ => 0) rfl hT hm A k dn hi fa fd F
  obtain ⟨s1, s2, s3⟩ := scopeOk_fn (hm dn hi).sc
  have hnp : dn.fn.np = 1 := by rw [← s2, hps]; rfl
  rw [hps, hnp] at hF
  obtain ⟨S, hS⟩ := law ns hlen
  refine law_g KX G.T.g G.T.b G.T.builtins G.T.nolimit hg hobj hints (Nat.le_trans hlen hn2) hr (fun base _ _ => hF base) (fun s u => ?_) fun H hq => ?_
  · obtain ⟨oc, od, dV, kV, doc, pm, an, cdv, ct, osl, rfl, lk, hcd, hD, _⟩ := F.ex
    obtain rfl : dV = .none := by
      rcases hD with ⟨_, e⟩ | ⟨e, _⟩
      · exact e
      · exact absurd rfl e
    have z := (hm dn hi).bnd kV doc pm an cdv ct [u] (by rw [hnp]; rfl)
    rw [hps] at z
    exact .of_eq z
  · refine ⟨[.d (.list (ns.map .int))], [], ⟨[], [], []⟩, rfl, .cons (.lst (seqL_mono no_hid hq) (dps_ints_K ns)) .nil, ⟨List.nodup_nil, rfl, fun n ob a e => (by simp at e), (fun a e => by cases e), (fun a e => by cases e), (fun a e => by cases e)⟩, ?_⟩
    rw [hS]
    intro φ' v H' n s r
    have r : Dp K (hid φ' H') v (.bool true) := r
    cases r
    rfl
end Ft
namespace Ft
open PySem PySem.Spec L2
abbrev dn (n : Nat) : D := .int (n : Int)
/-- some world, for what doesn't ask which -/
instance wd0 : Wd := ⟨⟨fun _ _ => 0, { strHash := fun _ => 0, shareClass := fun _ => 0, mergeTok := id, idOf := fun _ => 0, idOfShared := fun _ _ => 0, followText := fun _ => false, idOfImm := fun _ => 0 }⟩⟩
end Ft
namespace Ft
open PySem PySem.Spec L2
abbrev i_l_draw : Nat := 13
abbrev i_l_pick : Nat := 14
def B_l_draw : Bk :=
  (.cons (.ifs (.e (.op2 dGt (.sub (.var 0) (.c (dn 0))) (.c (dn 0))))
  (.cons (.asg (.t (.s (.var 0) (.c (dn 0))) (.t (.v 3) .e)) (.opn cDivmod (.cons (.sub (.var 0) (.c (dn 0))) (.cons (.var 1) .nil))))
  (.cons (.ret (.var 3))
  .nil))
  .nil)
  (.cons (.asg (.s (.var 0) (.c (dn 2))) (.op2 dAdd (.sub (.var 0) (.c (dn 2))) (.c (dn 1))))
  (.cons (.asg (.v 2) (.op2 dMod (.opn cInt (.cons (.op2 dAdd (.sub (.var 0) (.c (dn 1))) (.op2 dMul' (.c (dn 70001)) (.sub (.var 0) (.c (dn 2))))) .nil)) (.c (dn 2147483477))))
  (.cons (.asg (.s (.var 0) (.c (dn 1))) (.op2 dMod (.opn cInt (.cons (.op2 dAdd (.op2 dMul' (.var 2) (.op2 dAdd (.op2 dMod (.opn cInt (.cons (.var 2) .nil)) (.c (dn 4999))) (.c (dn 50021)))) (.op2 dMul' (.c (dn 17)) (.sub (.var 0) (.c (dn 2))))) .nil)) (.c (dn 2147483477))))
  (.cons (.ret (.op2 dMod (.opn cInt (.cons (.op2 dDiv (.sub (.var 0) (.c (dn 1))) (.c (dn 797))) .nil)) (.var 1)))
  .nil)))))
def F_l_draw : Fn := { np := 2, ns := 4, body := B_l_draw, kd := 1 }
def B_l_pick : Bk :=
  (.cons (.ret (.sub (.var 1) (.call i_l_draw (.cons (.var 0) (.cons (.len (.var 1)) .nil)))))
  .nil)
def F_l_pick : Fn := { np := 2, ns := 2, body := B_l_pick }
class C_la (G : Tbl) : Prop where
  x_l_draw : G i_l_draw = some F_l_draw
  x_l_pick : G i_l_pick = some F_l_pick
end Ft
namespace Ft
open PySem PySem.Spec L2
abbrev i_l_row : Nat := 15
abbrev i_l_ones : Nat := 16
abbrev i_l_word : Nat := 17
abbrev i_l_numbers : Nat := 18
abbrev i_l_told_by : Nat := 21
abbrev i_l_data : Nat := 28
abbrev i_l_whole : Nat := 29
abbrev i_l_bits : Nat := 40
def B_l_row : Bk :=
  (.cons (.asg (.v 1) (.nlst .nil))
  (.cons (.fors (.v 2) (.rng (.c (dn 0)) (.call i_l_pick (.cons (.var 0) (.cons (.tup (.cons (.c (dn 0)) (.cons (.c (dn 1)) (.cons (.c (dn 2)) (.cons (.c (dn 3)) (.cons (.c (dn 5)) (.cons (.c (dn 9)) (.cons (.c (dn 12)) (.cons (.c (dn 24)) (.cons (.c (dn 30)) (.cons (.c (dn 31)) (.cons (.c (dn 31)) (.cons (.call i_l_draw (.cons (.var 0) (.cons (.c (dn 32)) .nil))) .nil))))))))))))) .nil))))
  (.cons (.ex (.mlst gNo2 gAppend (.var 1) (.cons (.call i_l_pick (.cons (.var 0) (.cons (.tup (.cons (.c (dn 0)) (.cons (.c (dn 1)) (.cons (.c (dn 65535)) (.cons (.call i_l_draw (.cons (.var 0) (.cons (.c (dn 65536)) .nil))) (.cons (.call i_l_draw (.cons (.var 0) (.cons (.c (dn 9)) .nil))) .nil)))))) .nil))) .nil)))
  .nil))
  (.cons (.ret (.opn cTuple (.cons (.frz (.var 1)) .nil)))
  .nil)))
def F_l_row : Fn := { np := 1, ns := 3, body := B_l_row }
def B_l_ones : Bk :=
  (.cons (.asg (.v 1) (.c (dn 0)))
  (.cons (.whl (.e (.op2 dGt (.var 0) (.c (dn 0))))
  (.cons (.asg (.v 0) (.op2 dAnd (.var 0) (.op2 dSub' (.var 0) (.c (dn 1)))))
  (.cons (.asg (.v 1) (.op2 dAdd (.var 1) (.c (dn 1))))
  .nil)))
  (.cons (.ret (.var 1))
  .nil)))
def F_l_ones : Fn := { np := 1, ns := 2, body := B_l_ones }
def B_l_word : Bk :=
  (.cons (.asg (.v 1) (.len (.var 0)))
  (.cons (.fors (.v 2) (.seq (.var 0))
  (.cons (.asg (.v 1) (.op2 dAdd (.op2 dMul' (.var 1) (.c (dn 65536))) (.var 2)))
  .nil))
  (.cons (.asg (.v 1) (.op2 dShl (.var 1) (.op2 dMul' (.c (dn 16)) (.op2 dSub' (.c (dn 31)) (.len (.var 0))))))
  (.cons (.ret (.op2 dSub' (.op2 dAdd (.op2 dMul' (.var 1) (.c (dn 1024))) (.c (dn 512))) (.call i_l_ones (.cons (.var 1) .nil))))
  .nil))))
def F_l_word : Fn := { np := 1, ns := 3, body := B_l_word }
def B_l_numbers : Bk :=
  (.cons (.asg (.t (.v 2) (.t (.v 3) .e)) (.tup (.cons (.op2 dShr (.var 0) (.c (dn 10))) (.cons (.op2 dMod (.opn cInt (.cons (.var 0) .nil)) (.c (dn 1024))) .nil))))
  (.cons (.ifs (.e (.op2 dNe (.var 3) (.op2 dSub' (.c (dn 512)) (.call i_l_ones (.cons (.var 2) .nil)))))
  (.cons (.ret (.c .none))
  .nil)
  .nil)
  (.cons (.asg (.v 1) (.comp [4] (.op2 dMod (.opn cInt (.cons (.op2 dShr (.var 2) (.op2 dMul' (.c (dn 16)) (.op2 dSub' (.c (dn 31)) (.var 4)))) .nil)) (.c (dn 65536))) (.v 4) (.rng (.c (dn 0)) (.c (dn 32))) .tt))
  (.cons (.ifs (.or (.e (.op2 dGt (.sub (.var 1) (.c (dn 0))) (.c (dn 31)))) (.e (.op2 dNe (.comp [5] (.var 5) (.v 5) (.seq (.sliceL (.var 1) (.op2 dAdd (.sub (.var 1) (.c (dn 0))) (.c (dn 1))))) (.e (.op2 dNe (.var 5) (.c (dn 0))))) (.lst .nil))))
  (.cons (.ret (.tup .nil))
  .nil)
  .nil)
  (.cons (.ret (.opn cTuple (.cons (.slice (.var 1) (.c (dn 1)) (.op2 dAdd (.sub (.var 1) (.c (dn 0))) (.c (dn 1)))) .nil)))
  .nil)))))
def F_l_numbers : Fn := { np := 1, ns := 6, body := B_l_numbers }
def B_l_told_by : Bk :=
  (.cons (.asg (.v 1) (.call i_l_numbers (.cons (.var 0) .nil)))
  (.cons (.ret (.ite (.or (.e (.op2 dIs (.var 1) (.c .none))) (.and (.e (.op2 dEq (.var 1) (.tup .nil))) (.e (.op2 dNe (.call i_l_word (.cons (.tup .nil) .nil)) (.var 0))))) (.c .none) (.var 1)))
  .nil))
def F_l_told_by : Fn := { np := 1, ns := 2, body := B_l_told_by }
def B_l_data : Bk :=
  (.cons (.par 2 3 (.call i_l_draw (.cons (.var 0) (.cons (.c (dn 4)) .nil))) (.c (dn 0)))
  (.cons (.ifs (.e (.op2 dEq (.var 2) (.c (dn 0))))
  (.cons (.fors (.v 1) (.rng (.c (dn 0)) (.c (dn 16)))
  (.cons (.asg (.v 3) (.op2 dAdd (.op2 dMul' (.var 3) (.c (dn 4294967296))) (.call i_l_draw (.cons (.var 0) (.cons (.c (dn 4294967296)) .nil)))))
  .nil))
  (.cons (.ret (.var 3))
  .nil))
  .nil)
  (.cons (.fors (.v 1) (.rng (.c (dn 0)) (.call i_l_draw (.cons (.var 0) (.cons (.c (dn 7)) .nil))))
  (.cons (.asg (.v 3) (.op2 dOr (.var 3) (.op2 dShl (.c (dn 1)) (.call i_l_draw (.cons (.var 0) (.cons (.c (dn 512)) .nil))))))
  .nil))
  (.cons (.ret (.ite (.e (.op2 dEq (.var 2) (.c (dn 1)))) (.op2 dSub' (.op2 dSub' (.op2 dShl (.c (dn 1)) (.c (dn 512))) (.c (dn 1))) (.var 3)) (.var 3)))
  .nil))))
def F_l_data : Fn := { np := 1, ns := 4, body := B_l_data }
def B_l_whole : Bk :=
  (.cons (.ret (.op2 dSub' (.op2 dAdd (.op2 dMul' (.var 0) (.c (dn 1024))) (.c (dn 512))) (.call i_l_ones (.cons (.var 0) .nil))))
  .nil)
def F_l_whole : Fn := { np := 1, ns := 1, body := B_l_whole }
def B_l_bits : Bk :=
  (.cons (.asg (.v 1) (.call i_l_draw (.cons (.var 0) (.cons (.c (dn 4)) .nil))))
  (.cons (.ifs (.e (.op2 dEq (.var 1) (.c (dn 0))))
  (.cons (.ret (.op2 dSub' (.op2 dShl (.c (dn 1)) (.c (dn 522))) (.c (dn 1))))
  .nil)
  .nil)
  (.cons (.asg (.v 2) (.c (dn 0)))
  (.cons (.fors (.v 3) (.rng (.c (dn 0)) (.sub (.tup (.cons (.c (dn 1)) (.cons (.c (dn 1)) (.cons (.c (dn 3)) (.cons (.c (dn 9)) .nil))))) (.var 1)))
  (.cons (.asg (.v 2) (.op2 dOr (.var 2) (.op2 dShl (.c (dn 1)) (.call i_l_draw (.cons (.var 0) (.cons (.c (dn 522)) .nil))))))
  .nil))
  (.cons (.ret (.ite (.e (.op2 dLt (.var 1) (.c (dn 3)))) (.var 2) (.op2 dMod (.opn cInt (.cons (.op2 dAdd (.op2 dMul' (.op2 dMul' (.var 2) (.var 2)) (.c (dn 40503))) (.var 2)) .nil)) (.op2 dShl (.c (dn 1)) (.c (dn 522))))))
  .nil)))))
def F_l_bits : Fn := { np := 1, ns := 4, body := B_l_bits }
class C_lp (G : Tbl) : Prop extends C_la G where
  x_l_row : G i_l_row = some F_l_row
  x_l_ones : G i_l_ones = some F_l_ones
  x_l_word : G i_l_word = some F_l_word
  x_l_numbers : G i_l_numbers = some F_l_numbers
  x_l_told_by : G i_l_told_by = some F_l_told_by
  x_l_data : G i_l_data = some F_l_data
  x_l_whole : G i_l_whole = some F_l_whole
  x_l_bits : G i_l_bits = some F_l_bits
end Ft
namespace Ft
open PySem PySem.Spec L2
abbrev i_is_whole : Nat := 0
abbrev i_is_between : Nat := 1
abbrev i_wrong_in_numbers : Nat := 45
def B_is_whole : Bk :=
  (.cons (.ret (.and (.op1 (isiD .int) (.var 0)) (.not (.op1 (isiD .bool) (.var 0)))))
  .nil)
def F_is_whole : Fn := { np := 1, ns := 1, body := B_is_whole }
def B_is_between : Bk :=
  (.cons (.ret (.and (.call i_is_whole (.cons (.var 0) .nil)) (.chain dLe dLe (.var 1) (.var 0) (.var 2))))
  .nil)
def F_is_between : Fn := { np := 3, ns := 3, body := B_is_between }
def B_wrong_in_numbers : Bk :=
  (.cons (.ifs (.or (.not (.e (.op1 (isiD .tuple) (.var 0)))) (.e (.op2 dNe (.len (.var 0)) (.var 1))))
  (.cons (.ret (.lst (.cons (.c .none) .nil)))
  .nil)
  .nil)
  (.cons (.ret (.sliceR (.comp [3, 4] (.var 3) (.t (.v 3) (.t (.v 4) .e)) (.enum (.var 0)) (.not (.e (.call i_is_between (.cons (.var 4) (.cons (.c (dn 0)) (.cons (.var 2) .nil))))))) (.c (dn 1))))
  .nil))
def F_wrong_in_numbers : Fn := { np := 3, ns := 5, body := B_wrong_in_numbers }
class C_m_values (G : Tbl) : Prop where
  x_is_whole : G i_is_whole = some F_is_whole
  x_is_between : G i_is_between = some F_is_between
  x_wrong_in_numbers : G i_wrong_in_numbers = some F_wrong_in_numbers
end Ft
namespace Ft
open PySem PySem.Spec L2
abbrev i_is_paged : Nat := 2
abbrev i_zeros_of : Nat := 3
abbrev i_is_whole_page : Nat := 4
abbrev i_page_by : Nat := 5
abbrev i_numbers_by : Nat := 6
abbrev i_lies_within : Nat := 24
abbrev i_behind_program : Nat := 34
abbrev i_behind_erase : Nat := 35
abbrev i_is_clash : Nat := 151
abbrev i_clash_in : Nat := 152
def B_is_paged : Bk :=
  (.cons (.ret (.call i_is_between (.cons (.var 0) (.cons (.c (dn 0)) (.cons (.c (dn 13729595320261219429963801598162786434538870600286610818788926918371086366795312104245119281322909109954592622782961716074243975999433287625148056582230114303)) .nil)))))
  .nil)
def F_is_paged : Fn := { np := 1, ns := 1, body := B_is_paged }
def B_zeros_of : Bk :=
  (.cons (.ret (.op2 dSub' (.c (dn 512)) (.mstr gCount (.op1 dBin (.op2 dDiv (.var 0) (.c (dn 1024)))) (.cons (.c (.str "1")) .nil))))
  .nil)
def F_zeros_of : Fn := { np := 1, ns := 1, body := B_zeros_of }
def B_is_whole_page : Bk :=
  (.cons (.ret (.op2 dEq (.op2 dMod (.opn cInt (.cons (.var 0) .nil)) (.c (dn 1024))) (.call i_zeros_of (.cons (.var 0) .nil))))
  .nil)
def F_is_whole_page : Fn := { np := 1, ns := 1, body := B_is_whole_page }
def B_page_by : Bk :=
  (.cons (.asg (.v 1) (.len (.var 0)))
  (.cons (.fors (.v 2) (.seq (.var 0))
  (.cons (.asg (.v 1) (.op2 dAdd (.op2 dShl (.var 1) (.c (dn 16))) (.var 2)))
  .nil))
  (.cons (.asg (.v 1) (.op2 dShl (.var 1) (.op2 dMul' (.c (dn 16)) (.op2 dSub' (.c (dn 31)) (.len (.var 0))))))
  (.cons (.ret (.op2 dAdd (.op2 dMul' (.var 1) (.c (dn 1024))) (.call i_zeros_of (.cons (.op2 dMul' (.var 1) (.c (dn 1024))) .nil))))
  .nil))))
def F_page_by : Fn := { np := 1, ns := 3, body := B_page_by }
def B_numbers_by : Bk :=
  (.cons (.ifs (.not (.e (.call i_is_whole_page (.cons (.var 0) .nil))))
  (.cons (.ret (.c .none))
  .nil)
  .nil)
  (.cons (.asg (.v 1) (.op2 dDiv (.var 0) (.c (dn 1024))))
  (.cons (.asg (.v 2) (.opn cTuple (.cons (.comp [4] (.op2 dAnd (.op2 dShr (.var 1) (.op2 dMul' (.c (dn 16)) (.op2 dSub' (.c (dn 31)) (.var 4)))) (.c (dn 65535))) (.v 4) (.rng (.c (dn 0)) (.c (dn 32))) .tt) .nil)))
  (.cons (.asg (.v 3) (.sub (.var 2) (.c (dn 0))))
  (.cons (.ifs (.or (.e (.op2 dGt (.var 3) (.c (dn 31)))) (.e (.opn cAny (.cons (.comp [5] (.op2 dNe (.var 5) (.c (dn 0))) (.v 5) (.seq (.sliceL (.var 2) (.op2 dAdd (.var 3) (.c (dn 1))))) .tt) .nil))))
  (.cons (.ret (.c .none))
  .nil)
  .nil)
  (.cons (.ret (.slice (.var 2) (.c (dn 1)) (.op2 dAdd (.var 3) (.c (dn 1)))))
  .nil))))))
def F_numbers_by : Fn := { np := 1, ns := 6, body := B_numbers_by }
def B_lies_within : Bk :=
  (.cons (.ret (.op2 dEq (.op2 dAnd (.var 0) (.var 1)) (.var 0)))
  .nil)
def F_lies_within : Fn := { np := 2, ns := 2, body := B_lies_within }
def B_behind_program : Bk :=
  (.cons (.ret (.op2 dAnd (.var 0) (.op2 dOr (.var 1) (.var 2))))
  .nil)
def F_behind_program : Fn := { np := 3, ns := 3, body := B_behind_program }
def B_behind_erase : Bk :=
  (.cons (.ret (.op2 dAnd (.op2 dOr (.var 0) (.var 1)) (.c (dn 13729595320261219429963801598162786434538870600286610818788926918371086366795312104245119281322909109954592622782961716074243975999433287625148056582230114303))))
  .nil)
def F_behind_erase : Fn := { np := 2, ns := 2, body := B_behind_erase }
def B_is_clash : Bk :=
  (.cons (.ret (.and (.op2 dNe (.var 1) (.var 2)) (.and (.call i_lies_within (.cons (.var 1) (.cons (.var 2) .nil))) (.call i_lies_within (.cons (.sub (.var 0) (.var 1)) (.cons (.sub (.var 0) (.var 2)) .nil))))))
  .nil)
def F_is_clash : Fn := { np := 3, ns := 3, body := B_is_clash }
def B_clash_in : Bk :=
  (.cons (.fors (.v 1) (.rng (.c (dn 0)) (.len (.var 0)))
  (.cons (.fors (.v 2) (.rng (.op2 dAdd (.var 1) (.c (dn 1))) (.len (.var 0)))
  (.cons (.ifs (.e (.call i_is_clash (.cons (.var 0) (.cons (.var 1) (.cons (.var 2) .nil)))))
  (.cons (.ret (.tup (.cons (.var 1) (.cons (.var 2) .nil))))
  .nil)
  .nil)
  .nil))
  .nil))
  (.cons (.ret (.c .none))
  .nil))
def F_clash_in : Fn := { np := 1, ns := 3, body := B_clash_in }
class C_m_pagework (G : Tbl) : Prop extends C_m_values G where
  x_is_paged : G i_is_paged = some F_is_paged
  x_zeros_of : G i_zeros_of = some F_zeros_of
  x_is_whole_page : G i_is_whole_page = some F_is_whole_page
  x_page_by : G i_page_by = some F_page_by
  x_numbers_by : G i_numbers_by = some F_numbers_by
  x_lies_within : G i_lies_within = some F_lies_within
  x_behind_program : G i_behind_program = some F_behind_program
  x_behind_erase : G i_behind_erase = some F_behind_erase
  x_is_clash : G i_is_clash = some F_is_clash
  x_clash_in : G i_clash_in = some F_clash_in
end Ft
namespace Ft
open PySem PySem.Spec L2
abbrev i_is_page : Nat := 282
def B_is_page : Bk :=
  (.cons (.ret (.call i_is_paged (.cons (.var 0) .nil)))
  .nil)
def F_is_page : Fn := { np := 1, ns := 1, body := B_is_page }
class C_m_page1 (G : Tbl) : Prop extends C_m_pagework G where
  x_is_page : G i_is_page = some F_is_page
end Ft
namespace Ft
open PySem PySem.Spec L2
abbrev i_check_page : Nat := 7
abbrev i_zeros_in : Nat := 8
abbrev i_state_of : Nat := 9
abbrev i_word_of : Nat := 10
abbrev i_told_by : Nat := 11
abbrev i_is_blank : Nat := 25
abbrev i_is_within : Nat := 26
abbrev i_check_mask : Nat := 36
abbrev i_programmed : Nat := 37
abbrev i_erased : Nat := 38
abbrev i_clash : Nat := 153
abbrev i_program_may_leave : Nat := 194
def B_check_page : Bk :=
  (.cons (.ifs (.not (.e (.call i_is_paged (.cons (.var 0) .nil))))
  (.cons badS
  .nil)
  .nil)
  .nil)
def F_check_page : Fn := { np := 1, ns := 1, body := B_check_page }
def B_zeros_in : Bk :=
  (.cons (.ex (.call i_check_page (.cons (.var 0) .nil)))
  (.cons (.ret (.call i_zeros_of (.cons (.var 0) .nil)))
  .nil))
def F_zeros_in : Fn := { np := 1, ns := 1, body := B_zeros_in }
def B_state_of : Bk :=
  (.cons (.ex (.call i_check_page (.cons (.var 0) .nil)))
  (.cons (.ifs (.e (.op2 dEq (.var 0) (.c (dn 13729595320261219429963801598162786434538870600286610818788926918371086366795312104245119281322909109954592622782961716074243975999433287625148056582230114303))))
  (.cons (.ret (.c (.str "blank")))
  .nil)
  .nil)
  (.cons (.ret (.ite (.e (.call i_is_whole_page (.cons (.var 0) .nil))) (.c (.str "whole")) (.c (.str "half"))))
  .nil)))
def F_state_of : Fn := { np := 1, ns := 1, body := B_state_of }
def B_word_of : Bk :=
  (.cons (.ifs (.or (.not (.e (.op1 (isiD .tuple) (.var 0)))) (.e (.op2 dGt (.len (.var 0)) (.c (dn 31)))))
  (.cons badS
  .nil)
  .nil)
  (.cons (.fors (.t (.v 1) (.t (.v 2) .e)) (.enum (.var 0))
  (.cons (.ifs (.not (.e (.call i_is_between (.cons (.var 2) (.cons (.c (dn 0)) (.cons (.c (dn 65535)) .nil))))))
  (.cons badS
  .nil)
  .nil)
  .nil))
  (.cons (.ret (.call i_page_by (.cons (.var 0) .nil)))
  .nil)))
def F_word_of : Fn := { np := 1, ns := 3, body := B_word_of }
def B_told_by : Bk :=
  (.cons (.ex (.call i_check_page (.cons (.var 0) .nil)))
  (.cons (.ret (.call i_numbers_by (.cons (.var 0) .nil)))
  .nil))
def F_told_by : Fn := { np := 1, ns := 1, body := B_told_by }
def B_is_blank : Bk :=
  (.cons (.ex (.call i_check_page (.cons (.var 0) .nil)))
  (.cons (.ret (.op2 dEq (.var 0) (.c (dn 13729595320261219429963801598162786434538870600286610818788926918371086366795312104245119281322909109954592622782961716074243975999433287625148056582230114303))))
  .nil))
def F_is_blank : Fn := { np := 1, ns := 1, body := B_is_blank }
def B_is_within : Bk :=
  (.cons (.ex (.call i_check_page (.cons (.var 0) .nil)))
  (.cons (.ex (.call i_check_page (.cons (.var 1) .nil)))
  (.cons (.ret (.call i_lies_within (.cons (.var 0) (.cons (.var 1) .nil))))
  .nil)))
def F_is_within : Fn := { np := 2, ns := 2, body := B_is_within }
def B_check_mask : Bk :=
  (.cons (.ifs (.or (.not (.e (.call i_is_whole (.cons (.var 0) .nil)))) (.e (.op2 dLt (.var 0) (.c (dn 0)))))
  (.cons badS
  .nil)
  .nil)
  .nil)
def F_check_mask : Fn := { np := 1, ns := 1, body := B_check_mask }
def B_programmed : Bk :=
  (.cons (.ex (.call i_check_page (.cons (.var 0) .nil)))
  (.cons (.ex (.call i_check_page (.cons (.var 1) .nil)))
  (.cons (.ex (.call i_check_mask (.cons (.var 2) .nil)))
  (.cons (.ret (.call i_behind_program (.cons (.var 0) (.cons (.var 1) (.cons (.var 2) .nil)))))
  .nil))))
def F_programmed : Fn := { np := 3, ns := 3, body := B_programmed }
def B_erased : Bk :=
  (.cons (.ex (.call i_check_page (.cons (.var 0) .nil)))
  (.cons (.ex (.call i_check_mask (.cons (.var 1) .nil)))
  (.cons (.ret (.call i_behind_erase (.cons (.var 0) (.cons (.var 1) .nil))))
  .nil)))
def F_erased : Fn := { np := 2, ns := 2, body := B_erased }
def B_clash : Bk :=
  (.cons (.ifs (.or (.not (.e (.op1 (isiD .tuple) (.var 0)))) (.e (.op2 dNotIn (.len (.var 0)) (.c (.tuple [(dn 1), (dn 2), (dn 4), (dn 8), (dn 16), (dn 32), (dn 64), (dn 128), (dn 256)])))))
  (.cons badS
  .nil)
  .nil)
  (.cons (.fors (.t (.v 1) (.t (.v 2) .e)) (.enum (.var 0))
  (.cons (.ifs (.or (.not (.e (.call i_is_whole (.cons (.var 2) .nil)))) (.e (.op2 dLt (.var 2) (.c (dn 0)))))
  (.cons badS
  .nil)
  .nil)
  .nil))
  (.cons (.ret (.call i_clash_in (.cons (.var 0) .nil)))
  .nil)))
def F_clash : Fn := { np := 1, ns := 3, body := B_clash }
def B_program_may_leave : Bk :=
  (.cons (.ex (.call i_check_page (.cons (.var 0) .nil)))
  (.cons (.ex (.call i_check_page (.cons (.var 1) .nil)))
  (.cons (.ex (.call i_check_page (.cons (.var 2) .nil)))
  (.cons (.ret (.and (.call i_lies_within (.cons (.var 2) (.cons (.var 0) .nil))) (.call i_lies_within (.cons (.op2 dAnd (.var 0) (.var 1)) (.cons (.var 2) .nil)))))
  .nil))))
def F_program_may_leave : Fn := { np := 3, ns := 3, body := B_program_may_leave }
class C_m_pages (G : Tbl) : Prop extends C_m_pagework G, C_m_values G where
  x_check_page : G i_check_page = some F_check_page
  x_zeros_in : G i_zeros_in = some F_zeros_in
  x_state_of : G i_state_of = some F_state_of
  x_word_of : G i_word_of = some F_word_of
  x_told_by : G i_told_by = some F_told_by
  x_is_blank : G i_is_blank = some F_is_blank
  x_is_within : G i_is_within = some F_is_within
  x_check_mask : G i_check_mask = some F_check_mask
  x_programmed : G i_programmed = some F_programmed
  x_erased : G i_erased = some F_erased
  x_clash : G i_clash = some F_clash
  x_program_may_leave : G i_program_may_leave = some F_program_may_leave
end Ft
namespace Ft
open PySem PySem.Spec L2
abbrev i_l_spring_13 : Nat := 283
abbrev i_l_any : Nat := 284
abbrev i_l_odd_2 : Nat := 285
abbrev i_l_things : Nat := 286
abbrev i_l_is_page : Nat := 287
abbrev i_l_page_right_2 : Nat := 288
abbrev i_l_right_17 : Nat := 289
abbrev i_l_law_17 : Nat := 290
def B_l_spring_13 : Bk :=
  (.cons (.asg (.v 2) (.op2 dAdd (.c (dn 16310381)) (.op2 dMul' (.c (dn 90019)) (.var 1))))
  (.cons (.fors (.v 3) (.seq (.sliceR (.var 0) (.c (dn 8))))
  (.cons (.asg (.v 2) (.op2 dMod (.opn cInt (.cons (.op2 dAdd (.op2 dAdd (.op2 dMul' (.var 2) (.c (dn 52361))) (.op2 dMod (.opn cInt (.cons (.var 3) .nil)) (.c (dn 2147482951)))) (.c (dn 11))) .nil)) (.c (dn 2147483477))))
  .nil))
  (.cons (.asg (.v 4) (.ite (.e (.op2 dLt (.var 1) (.len (.var 0)))) (.opn cInt (.cons (.sub (.var 0) (.var 1)) .nil)) (.c (dn 0))))
  (.cons (.asg (.v 2) (.op2 dMod (.opn cInt (.cons (.op2 dAdd (.op2 dAdd (.op2 dMul' (.var 2) (.c (dn 37))) (.op2 dMul' (.op2 dMod (.opn cInt (.cons (.var 4) .nil)) (.c (dn 2147482951))) (.c (dn 30011)))) (.c (dn 3))) .nil)) (.c (dn 2147483477))))
  (.cons (.ret (.nlst (.cons (.ite (.or (.e (.op2 dLt (.var 4) (.c (dn 0)))) (.e (.op2 dGe (.var 4) (.op2 dPow (.c (dn 10)) (.c (dn 15)))))) (.opn cAbs (.cons (.var 4) .nil)) (.c (dn 0))) (.cons (.var 2) (.cons (.c (dn 0)) .nil)))))
  .nil)))))
def F_l_spring_13 : Fn := { np := 2, ns := 5, body := B_l_spring_13, fresh := true, kd := 2 }
def B_l_any : Bk :=
  (.cons (.asg (.v 1) (.call i_l_draw (.cons (.var 0) (.cons (.c (dn 7)) .nil))))
  (.cons (.ifs (.e (.op2 dLt (.var 1) (.c (dn 2))))
  (.cons (.ret (.call i_l_word (.cons (.call i_l_row (.cons (.var 0) .nil)) .nil)))
  .nil)
  .nil)
  (.cons (.ifs (.e (.op2 dEq (.var 1) (.c (dn 2))))
  (.cons (.ret (.call i_l_whole (.cons (.call i_l_data (.cons (.var 0) .nil)) .nil)))
  .nil)
  .nil)
  (.cons (.ifs (.e (.op2 dEq (.var 1) (.c (dn 3))))
  (.cons (.ret (.op2 dSub' (.op2 dShl (.c (dn 1)) (.c (dn 522))) (.c (dn 1))))
  .nil)
  .nil)
  (.cons (.ifs (.e (.op2 dEq (.var 1) (.c (dn 4))))
  (.cons (.ret (.op2 dOr (.call i_l_whole (.cons (.call i_l_data (.cons (.var 0) .nil)) .nil)) (.call i_l_bits (.cons (.var 0) .nil))))
  .nil)
  .nil)
  (.cons (.ifs (.e (.op2 dEq (.var 1) (.c (dn 5))))
  (.cons (.ret (.op2 dSub' (.op2 dSub' (.op2 dShl (.c (dn 1)) (.c (dn 522))) (.c (dn 1))) (.op2 dShl (.c (dn 1)) (.call i_l_draw (.cons (.var 0) (.cons (.c (dn 522)) .nil))))))
  .nil)
  .nil)
  (.cons (.ret (.op2 dAdd (.op2 dMul' (.call i_l_data (.cons (.var 0) .nil)) (.c (dn 1024))) (.call i_l_draw (.cons (.var 0) (.cons (.c (dn 1024)) .nil)))))
  .nil)))))))
def F_l_any : Fn := { np := 1, ns := 2, body := B_l_any }
def B_l_odd_2 : Bk :=
  (.cons (.ret (.call i_l_pick (.cons (.var 0) (.cons (.tup (.cons (.c .none) (.cons (.c (.bool true)) (.cons (.c (.bool false)) (.cons (.c (dn 0)) (.cons (.c (dn 1)) (.cons (.op1 dNeg (.c (dn 1))) (.cons (.c (dn 2)) (.cons (.c (dn 16)) (.cons (.c (dn 257)) (.cons (.c (dn 65536)) (.cons (.c (dn 4294967295)) (.cons (.c (dn 4294967296)) (.cons (.op2 dPow (.c (dn 10)) (.c (dn 25))) (.cons (.c (.str "")) (.cons (.c (.str "a")) (.cons (.c (.str "A")) (.cons (.c (.str "a b")) (.cons (.c (.str "abcdefghi")) (.cons (.c (.str "abcdefghij")) (.cons (.c (.str "name")) (.cons (.c (.str "file")) (.cons (.tup .nil) (.cons (.tup (.cons (.c (dn 1)) .nil)) (.cons (.tup (.cons (.c (dn 0)) .nil)) (.cons (.tup (.cons (.c (.str "a")) .nil)) (.cons (.tup (.cons (.c (.str "node")) .nil)) (.cons (.tup (.cons (.c (.str "node")) (.cons (.c (dn 1)) .nil))) (.cons (.tup (.cons (.c (.str "node")) (.cons (.c (dn 0)) .nil))) (.cons (.tup (.cons (.c (.str "node")) (.cons (.c (dn 1)) (.cons (.c (dn 1)) .nil)))) (.cons (.tup (.cons (.c (.str "name")) (.cons (.c (dn 0)) (.cons (.c (.str "a")) .nil)))) (.cons (.tup (.cons (.c (.str "name")) (.cons (.c (dn 0)) (.cons (.c (.str "")) .nil)))) (.cons (.tup (.cons (.c (.str "name")) (.cons (.op1 dNeg (.c (dn 1))) (.cons (.c (.str "a")) .nil)))) (.cons (.tup (.cons (.c (.str "piece")) (.cons (.c (dn 1)) (.cons (.c (dn 15)) .nil)))) (.cons (.tup (.cons (.c (.str "piece")) (.cons (.c (dn 1)) (.cons (.c (dn 16)) .nil)))) (.cons (.tup (.cons (.c (.str "piece")) (.cons (.c (dn 0)) (.cons (.c (dn 0)) .nil)))) (.cons (.tup (.cons (.c (.str "file")) (.cons (.c (dn 0)) .nil))) (.cons (.tup (.cons (.c (.str "folder")) (.cons (.c (dn 0)) .nil))) (.cons (.tup (.cons (.c (.str "folder")) (.cons (.c (dn 1)) .nil))) (.cons (.tup (.cons (.c (.str "file")) (.cons (.c (dn 257)) .nil))) (.cons (.tup (.cons (.c (.str "file")) (.cons (.c (.bool true)) .nil))) (.cons (.lst .nil) (.cons (.lst (.cons (.c (dn 1)) .nil)) (.cons (.lst (.cons (.c (.str "node")) (.cons (.c (dn 1)) .nil))) (.cons .dz (.cons (.tup (.cons (.c (.bool true)) .nil)) (.cons (.tup (.cons (.c (dn 65536)) .nil)) (.cons (.op2 dMul' (.tup (.cons (.c (dn 0)) .nil)) (.c (dn 16))) (.cons (.op2 dMul' (.tup (.cons (.c (dn 0)) .nil)) (.c (dn 17))) (.cons (.tup (.cons (.tup .nil) .nil)) (.cons (.tup (.cons (.c (.str "bit")) (.cons (.c (dn 1)) .nil))) (.cons (.tup (.cons (.c .none) (.cons (.c (dn 1)) .nil))) (.cons (.tup (.cons (.c (.str "name")) (.cons (.c (dn 0)) .nil))) .nil))))))))))))))))))))))))))))))))))))))))))))))))))))) .nil))))
  .nil)
def F_l_odd_2 : Fn := { np := 1, ns := 1, body := B_l_odd_2 }
def B_l_things : Bk :=
  (.cons (.ret (.lst (.cons (.var 1) (.cons (.call i_l_odd_2 (.cons (.var 0) .nil)) (.cons (.call i_l_odd_2 (.cons (.var 0) .nil)) (.cons (.op2 dShl (.c (dn 1)) (.c (dn 522))) (.cons (.op2 dSub' (.op2 dShl (.c (dn 1)) (.c (dn 522))) (.c (dn 1))) (.cons (.op1 dNeg (.c (dn 1))) (.cons (.op1 dNeg (.var 1)) (.cons (.op2 dAdd (.var 1) (.op2 dShl (.c (dn 1)) (.c (dn 522)))) (.cons (.lst (.cons (.var 1) .nil)) (.cons (.tup (.cons (.var 1) .nil)) (.cons (.opn cStr (.cons (.var 1) .nil)) (.cons (.op2 dEq (.var 1) (.c (dn 0))) .nil))))))))))))))
  .nil)
def F_l_things : Fn := { np := 2, ns := 2, body := B_l_things }
def B_l_is_page : Bk :=
  (.cons (.ret (.and (.op1 (isiD .int) (.var 0)) (.and (.not (.op1 (isiD .bool) (.var 0))) (.chain dLe dLt (.c (dn 0)) (.var 0) (.op2 dShl (.c (dn 1)) (.c (dn 522)))))))
  .nil)
def F_l_is_page : Fn := { np := 1, ns := 1, body := B_l_is_page }
def B_l_page_right_2 : Bk :=
  (.cons (.asg (.v 1) (.op2 dEq (.var 0) (.op2 dSub' (.op2 dShl (.c (dn 1)) (.c (dn 522))) (.c (dn 1)))))
  (.cons (.asg (.v 2) (.ite (.e (.var 1)) (.c (.str "blank")) (.ite (.e (.op2 dIs (.call i_l_numbers (.cons (.var 0) .nil)) (.c .none))) (.c (.str "half")) (.c (.str "whole")))))
  (.cons (.asg (.v 3) (.lst (.cons (.call i_state_of (.cons (.var 0) .nil)) (.cons (.callk i_state_of .nil (.cons (.var 0) .nil) [0]) (.cons (.call i_is_blank (.cons (.var 0) .nil)) (.cons (.callk i_is_blank .nil (.cons (.var 0) .nil) [0]) (.cons (.call i_told_by (.cons (.var 0) .nil)) .nil)))))))
  (.cons (.asg (.v 3) (.op2 dAdd (.var 3) (.lst (.cons (.callk i_told_by .nil (.cons (.var 0) .nil) [0]) (.cons (.call i_zeros_in (.cons (.var 0) .nil)) (.cons (.callk i_zeros_in .nil (.cons (.var 0) .nil) [0]) .nil))))))
  (.cons (.par 4 5 (.call i_l_told_by (.cons (.var 0) .nil)) (.op2 dSub' (.c (dn 512)) (.call i_l_ones (.cons (.op2 dShr (.var 0) (.c (dn 10))) .nil))))
  (.cons (.ret (.op2 dEq (.opn cRepr (.cons (.var 3) .nil)) (.opn cRepr (.cons (.lst (.cons (.var 2) (.cons (.var 2) (.cons (.var 1) (.cons (.var 1) (.cons (.var 4) (.cons (.var 4) (.cons (.var 5) (.cons (.var 5) .nil))))))))) .nil))))
  .nil))))))
def F_l_page_right_2 : Fn := { np := 1, ns := 6, body := B_l_page_right_2 }
def B_l_right_17 : Bk :=
  (.cons (.par 3 1 (.call i_l_any (.cons (.var 0) .nil)) (.call i_l_any (.cons (.var 0) .nil)))
  (.cons (.asg (.v 1) (.ite (.e (.op2 dEq (.call i_l_draw (.cons (.var 0) (.cons (.c (dn 3)) .nil))) (.c (dn 0)))) (.op2 dAnd (.var 3) (.var 1)) (.var 1)))
  (.cons (.ifs (.or (.not (.e (.call i_l_page_right_2 (.cons (.var 3) .nil)))) (.not (.e (.call i_l_page_right_2 (.cons (.var 1) .nil)))))
  (.cons (.ret (.c (.bool false)))
  .nil)
  .nil)
  (.cons (.par 4 5 (.nlst (.cons (.c (dn 522)) (.cons (.c (dn 13729595320261219429963801598162786434538870600286610818788926918371086366795312104245119281322909109954592622782961716074243975999433287625148056582230114303)) .nil))) (.nlst (.cons (.c (dn 522)) (.cons (.op2 dSub' (.op2 dShl (.c (dn 1)) (.c (dn 522))) (.c (dn 1))) .nil))))
  (.cons (.fors (.t (.v 6) (.t (.v 7) .e)) (.seq (.tup (.cons (.tup (.cons (.var 3) (.cons (.var 1) .nil))) (.cons (.tup (.cons (.var 1) (.cons (.var 3) .nil))) (.cons (.tup (.cons (.var 3) (.cons (.var 3) .nil))) (.cons (.tup (.cons (.var 3) (.cons (.op2 dOr (.var 3) (.var 1)) .nil))) .nil))))))
  (.cons (.ex (.mlst gNo2 gAppend (.var 4) (.cons (.lst (.cons (.call i_is_within (.cons (.var 6) (.cons (.var 7) .nil))) (.cons (.callk i_is_within .nil (.cons (.var 7) (.cons (.var 6) .nil)) [1, 0]) .nil))) .nil)))
  (.cons (.ex (.mlst gNo2 gAppend (.var 5) (.cons (.op2 dMul' (.lst (.cons (.op2 dEq (.op2 dAnd (.var 6) (.var 7)) (.var 6)) .nil)) (.c (dn 2))) .nil)))
  .nil)))
  (.cons (.fors (.v 2) (.seq (.call i_l_things (.cons (.var 0) (.cons (.var 3) .nil))))
  (.cons (.ex (.mlst gNo2 gAppend (.var 4) (.cons (.lst (.cons (.call i_is_page (.cons (.var 2) .nil)) (.cons (.callk i_is_page .nil (.cons (.var 2) .nil) [0]) .nil))) .nil)))
  (.cons (.ex (.mlst gNo2 gAppend (.var 5) (.cons (.op2 dMul' (.lst (.cons (.call i_l_is_page (.cons (.var 2) .nil)) .nil)) (.c (dn 2))) .nil)))
  .nil)))
  (.cons (.ret (.op2 dEq (.opn cRepr (.cons (.frz (.var 4)) .nil)) (.opn cRepr (.cons (.frz (.var 5)) .nil))))
  .nil)))))))
def F_l_right_17 : Fn := { np := 1, ns := 8, body := B_l_right_17 }
def B_l_law_17 : Bk :=
  (.cons (.ret (.opn cAll (.cons (.comp [1] (.call i_l_right_17 (.cons (.call i_l_spring_13 (.cons (.var 0) (.cons (.var 1) .nil))) .nil)) (.v 1) (.rng (.c (dn 0)) (.opn cMax (.cons (.c (dn 2)) (.cons (.opn cMin (.cons (.len (.var 0)) (.cons (.c (dn 3)) .nil))) .nil)))) .tt) .nil)))
  .nil)
def F_l_law_17 : Fn := { np := 1, ns := 2, body := B_l_law_17 }
class C_x_k03 (G : Tbl) : Prop extends C_la G, C_lp G, C_m_page1 G, C_m_pages G where
  x_l_spring_13 : G i_l_spring_13 = some F_l_spring_13
  x_l_any : G i_l_any = some F_l_any
  x_l_odd_2 : G i_l_odd_2 = some F_l_odd_2
  x_l_things : G i_l_things = some F_l_things
  x_l_is_page : G i_l_is_page = some F_l_is_page
  x_l_page_right_2 : G i_l_page_right_2 = some F_l_page_right_2
  x_l_right_17 : G i_l_right_17 = some F_l_right_17
  x_l_law_17 : G i_l_law_17 = some F_l_law_17
end Ft
set_option maxHeartbeats 0
namespace Ft
open PySem PySem.Spec L2
def top (i : Nat) : Stmt := PySem.Challenge.pw_flashtrees_k03_whole_pages_of_anything.main.body.getD i (.Pass ⟨0, 0, 0, 0⟩)
def d_is_whole : Dn := { nm := "is_whole", ix := i_is_whole, ps := ["value"], params := defArgs (top 4), stmts := defBody (top 4), scope := defScope (top 4), N := ["value"], kws := [], frz := [], nls := [], retn := false, dcs := [], rls := [], fn := F_is_whole }
def d_is_between : Dn := { nm := "is_between", ix := i_is_between, ps := ["value", "low", "high"], params := defArgs (top 5), stmts := defBody (top 5), scope := defScope (top 5), N := ["value", "low", "high"], kws := [], frz := [], nls := [], retn := false, dcs := [], rls := [], fn := F_is_between }
def d_is_paged : Dn := { nm := "is_paged", ix := i_is_paged, ps := ["value"], params := defArgs (top 15), stmts := defBody (top 15), scope := defScope (top 15), N := ["value"], kws := [], frz := [], nls := [], retn := false, dcs := [], rls := [], fn := F_is_paged }
def d_lies_within : Dn := { nm := "lies_within", ix := i_lies_within, ps := ["one", "other"], params := defArgs (top 16), stmts := defBody (top 16), scope := defScope (top 16), N := ["one", "other"], kws := [], frz := [], nls := [], retn := false, dcs := [], rls := [], fn := F_lies_within }
def d_zeros_of : Dn := { nm := "zeros_of", ix := i_zeros_of, ps := ["page"], params := defArgs (top 17), stmts := defBody (top 17), scope := defScope (top 17), N := ["page"], kws := [], frz := [], nls := [], retn := false, dcs := [], rls := [], fn := F_zeros_of }
def d_is_whole_page : Dn := { nm := "is_whole_page", ix := i_is_whole_page, ps := ["page"], params := defArgs (top 18), stmts := defBody (top 18), scope := defScope (top 18), N := ["page"], kws := [], frz := [], nls := [], retn := false, dcs := [], rls := [], fn := F_is_whole_page }
def d_numbers_by : Dn := { nm := "numbers_by", ix := i_numbers_by, ps := ["page"], params := defArgs (top 19), stmts := defBody (top 19), scope := defScope (top 19), N := ["page", "data", "units", "many", "at", "unit"], kws := [], frz := [], nls := [], retn := false, dcs := [], rls := [], fn := F_numbers_by }
def d_is_page : Dn := { nm := "is_page", ix := i_is_page, ps := ["value"], params := defArgs (top 23), stmts := defBody (top 23), scope := defScope (top 23), N := ["value"], kws := [(0, ["value"], [0])], frz := [], nls := [], retn := false, dcs := [], rls := [], fn := F_is_page }
def d_check_page : Dn := { nm := "check_page", ix := i_check_page, ps := ["value"], params := defArgs (top 24), stmts := defBody (top 24), scope := defScope (top 24), N := ["value"], kws := [], frz := [], nls := [], retn := false, dcs := [], rls := [], fn := F_check_page }
def d_is_blank : Dn := { nm := "is_blank", ix := i_is_blank, ps := ["page"], params := defArgs (top 25), stmts := defBody (top 25), scope := defScope (top 25), N := ["page"], kws := [(0, ["page"], [0])], frz := [], nls := [], retn := false, dcs := [], rls := [], fn := F_is_blank }
def d_is_within : Dn := { nm := "is_within", ix := i_is_within, ps := ["page", "other"], params := defArgs (top 26), stmts := defBody (top 26), scope := defScope (top 26), N := ["page", "other"], kws := [(0, ["other", "page"], [1, 0])], frz := [], nls := [], retn := false, dcs := [], rls := [], fn := F_is_within }
def d_zeros_in : Dn := { nm := "zeros_in", ix := i_zeros_in, ps := ["page"], params := defArgs (top 27), stmts := defBody (top 27), scope := defScope (top 27), N := ["page"], kws := [(0, ["page"], [0])], frz := [], nls := [], retn := false, dcs := [], rls := [], fn := F_zeros_in }
def d_state_of : Dn := { nm := "state_of", ix := i_state_of, ps := ["page"], params := defArgs (top 28), stmts := defBody (top 28), scope := defScope (top 28), N := ["page"], kws := [(0, ["page"], [0])], frz := [], nls := [], retn := false, dcs := [], rls := [], fn := F_state_of }
def d_told_by : Dn := { nm := "told_by", ix := i_told_by, ps := ["page"], params := defArgs (top 29), stmts := defBody (top 29), scope := defScope (top 29), N := ["page"], kws := [(0, ["page"], [0])], frz := [], nls := [], retn := false, dcs := [], rls := [], fn := F_told_by }
def d_l_spring_13 : Dn := { nm := "_law_spring", ix := i_l_spring_13, ps := ["_law_script", "_law_turn"], params := defArgs (top 31), stmts := defBody (top 31), scope := defScope (top 31), N := ["_law_script", "_law_turn", "_law_mixed", "_law_cell", "_law_own"], kws := [], frz := [], nls := [], retn := true, dcs := [], rls := [], fn := F_l_spring_13 }
def d_l_draw : Dn := { nm := "_law_draw", ix := i_l_draw, ps := ["_law_spring_here", "_law_high"], params := defArgs (top 32), stmts := defBody (top 32), scope := defScope (top 32), N := ["_law_spring_here", "_law_high", "_law_seed", "_law_figure"], kws := [], frz := [], nls := [], retn := false, dcs := [], rls := [], fn := F_l_draw }
def d_l_pick : Dn := { nm := "_law_pick", ix := i_l_pick, ps := ["_law_spring_here", "_law_some"], params := defArgs (top 33), stmts := defBody (top 33), scope := defScope (top 33), N := ["_law_spring_here", "_law_some"], kws := [], frz := [], nls := [], retn := false, dcs := [], rls := [], fn := F_l_pick }
def d_l_bits : Dn := { nm := "_law_bits", ix := i_l_bits, ps := ["_law_spring_here"], params := defArgs (top 34), stmts := defBody (top 34), scope := defScope (top 34), N := ["_law_spring_here", "_law_way", "_law_made", "_law_turn"], kws := [], frz := [], nls := [], retn := false, dcs := [], rls := [], fn := F_l_bits }
def d_l_row : Dn := { nm := "_law_row", ix := i_l_row, ps := ["_law_spring_here"], params := defArgs (top 35), stmts := defBody (top 35), scope := defScope (top 35), N := ["_law_spring_here", "_law_row_here", "_law_turn"], kws := [], frz := ["_law_row_here"], nls := ["_law_row_here"], retn := false, dcs := [], rls := [], fn := F_l_row }
def d_l_ones : Dn := { nm := "_law_ones", ix := i_l_ones, ps := ["_law_number"], params := defArgs (top 36), stmts := defBody (top 36), scope := defScope (top 36), N := ["_law_number", "_law_total"], kws := [], frz := [], nls := [], retn := false, dcs := [], rls := [], fn := F_l_ones }
def d_l_word : Dn := { nm := "_law_word", ix := i_l_word, ps := ["_law_numbers_here"], params := defArgs (top 37), stmts := defBody (top 37), scope := defScope (top 37), N := ["_law_numbers_here", "_law_data_here", "_law_each"], kws := [], frz := [], nls := [], retn := false, dcs := [], rls := [], fn := F_l_word }
def d_l_numbers : Dn := { nm := "_law_numbers", ix := i_l_numbers, ps := ["_law_page"], params := defArgs (top 38), stmts := defBody (top 38), scope := defScope (top 38), N := ["_law_page", "_law_units", "_law_data_here", "_law_check", "_law_spot", "_law_unit"], kws := [], frz := [], nls := [], retn := false, dcs := [], rls := [], fn := F_l_numbers }
def d_l_data : Dn := { nm := "_law_data", ix := i_l_data, ps := ["_law_spring_here"], params := defArgs (top 39), stmts := defBody (top 39), scope := defScope (top 39), N := ["_law_spring_here", "_law_turn", "_law_way", "_law_data_here"], kws := [], frz := [], nls := [], retn := false, dcs := [], rls := [], fn := F_l_data }
def d_l_whole : Dn := { nm := "_law_whole", ix := i_l_whole, ps := ["_law_data_here"], params := defArgs (top 40), stmts := defBody (top 40), scope := defScope (top 40), N := ["_law_data_here"], kws := [], frz := [], nls := [], retn := false, dcs := [], rls := [], fn := F_l_whole }
def d_l_any : Dn := { nm := "_law_any", ix := i_l_any, ps := ["_law_spring_here"], params := defArgs (top 41), stmts := defBody (top 41), scope := defScope (top 41), N := ["_law_spring_here", "_law_way"], kws := [], frz := [], nls := [], retn := false, dcs := [], rls := [], fn := F_l_any }
def d_l_odd_2 : Dn := { nm := "_law_odd", ix := i_l_odd_2, ps := ["_law_spring_here"], params := defArgs (top 42), stmts := defBody (top 42), scope := defScope (top 42), N := ["_law_spring_here"], kws := [], frz := [], nls := [], retn := false, dcs := [], rls := [], fn := F_l_odd_2 }
def d_l_told_by : Dn := { nm := "_law_told_by", ix := i_l_told_by, ps := ["_law_page"], params := defArgs (top 43), stmts := defBody (top 43), scope := defScope (top 43), N := ["_law_page", "_law_row_here"], kws := [], frz := [], nls := [], retn := false, dcs := [], rls := [], fn := F_l_told_by }
def d_l_things : Dn := { nm := "_law_things", ix := i_l_things, ps := ["_law_spring_here", "_law_page"], params := defArgs (top 44), stmts := defBody (top 44), scope := defScope (top 44), N := ["_law_spring_here", "_law_page"], kws := [], frz := [], nls := [], retn := false, dcs := [], rls := [], fn := F_l_things }
def d_l_is_page : Dn := { nm := "_law_is_page", ix := i_l_is_page, ps := ["_law_thing"], params := defArgs (top 45), stmts := defBody (top 45), scope := defScope (top 45), N := ["_law_thing"], kws := [], frz := [], nls := [], retn := false, dcs := [], rls := [], fn := F_l_is_page }
def d_l_page_right_2 : Dn := { nm := "_law_page_right", ix := i_l_page_right_2, ps := ["_law_page"], params := defArgs (top 46), stmts := defBody (top 46), scope := defScope (top 46), N := ["_law_page", "_law_blank", "_law_state", "_law_told", "_law_row_here", "_law_zeros"], kws := [], frz := [], nls := [], retn := false, dcs := [], rls := [], fn := F_l_page_right_2 }
def d_l_right_17 : Dn := { nm := "_law_right", ix := i_l_right_17, ps := ["_law_spring_here"], params := defArgs (top 47), stmts := defBody (top 47), scope := defScope (top 47), N := ["_law_spring_here", "_law_late", "_law_thing", "_law_page", "_law_told", "_law_due", "_law_here", "_law_there"], kws := [], frz := ["_law_told", "_law_due"], nls := ["_law_told", "_law_due"], retn := false, dcs := [], rls := [], fn := F_l_right_17 }
def d_l_law_17 : Dn := { nm := "law", ix := i_l_law_17, ps := ["_law_script"], params := defArgs (top 48), stmts := defBody (top 48), scope := defScope (top 48), N := ["_law_script", "_law_turn"], kws := [], frz := [], nls := [], retn := false, dcs := [], rls := [], fn := F_l_law_17 }
def md : Md := { ds := ([d_is_whole, d_is_between, d_is_paged, d_lies_within, d_zeros_of, d_is_whole_page, d_numbers_by, d_is_page, d_check_page, d_is_blank, d_is_within, d_zeros_in, d_state_of, d_told_by, d_l_spring_13, d_l_draw, d_l_pick, d_l_bits, d_l_row, d_l_ones, d_l_word, d_l_numbers, d_l_data, d_l_whole, d_l_any, d_l_odd_2, d_l_told_by, d_l_things, d_l_is_page, d_l_page_right_2] : List Dn) ++ ([d_l_right_17, d_l_law_17] : List Dn), glo := [("BLANK_pages", (dn 13729595320261219429963801598162786434538870600286610818788926918371086366795312104245119281322909109954592622782961716074243975999433287625148056582230114303)), ("BLANK_pagework", (dn 13729595320261219429963801598162786434538870600286610818788926918371086366795312104245119281322909109954592622782961716074243975999433287625148056582230114303)), ("CHECK_SIZE", (dn 1024)), ("DATA_BITS", (dn 512)), ("MOST_IN_UNIT", (dn 65535)), ("MOST_NUMBERS", (dn 31)), ("UNITS", (dn 32)), ("UNIT_BITS", (dn 16)), ("WIDTH_pages", (dn 522))], free := ["abs", "all", "any", "bool", "divmod", "int", "isinstance", "len", "max", "min", "range", "repr", "str", "tuple"] }
end Ft
set_option maxHeartbeats 0
namespace Ft
open PySem PySem.Spec L2
open PyProof.Rows hiding St
abbrev lR : PySem.W.OpenRow := PySem.W.OpenLaw.row PySem.Challenge.rw_flashtrees_k03_whole_pages_of_anything
abbrev lhk : PySem.W.Hook := hookM 2 md
def lob (s : PySem.W.SharedT) : He.AlD := obsMG 2 md (HandSHeadRun.getT s)
theorem lob_eq (s : PySem.W.SharedT) : lob s = lhk.obs s.abs := obsMG_eq (HandSHeadRun.getT_eq s)
def loose : List Str := (["FlashError", "InvalidPage", "is_whole", "is_between", "WIDTH_pagework", "CHECK_SIZE", "UNITS", "UNIT_BITS", "MOST_IN_UNIT", "MOST_NUMBERS", "BLANK_pagework", "DATA_BITS", "is_paged", "lies_within", "zeros_of", "is_whole_page", "numbers_by", "WIDTH_pages", "BLANK_pages", "is_page", "check_page", "is_blank", "is_within", "zeros_in", "state_of", "told_by", "_law_spring", "_law_draw", "_law_pick", "_law_bits"] : List Str) ++ (["_law_row", "_law_ones", "_law_word", "_law_numbers", "_law_data", "_law_whole", "_law_any", "_law_odd", "_law_told_by", "_law_things", "_law_is_page", "_law_page_right", "_law_right"] : List Str)
theorem map3 {σ α β γ : Type} {o : Option σ} {f : σ → α} {g : σ → β} {h : σ → γ} {a : α} {b : β} {c : γ} (h1 : o.map f = some a) (h2 : o.map g = some b) (h3 : o.map h = some c) : o.map (fun s => (f s, g s, h s)) = some (a, b, c) := by
  cases o with
  | none => cases h1
  | some s => cases h1; cases h2; cases h3; rfl
section
open PySem.W PySem.Calls HandSHeadRun PyProof.Rows
theorem lrunA (w : World) (os : PySem.OsState) : (endF (stepQ (denQ tabQ) lR.prog w) 20000 lR.prog w os).map (fun s => looksF lR.prog (boot_heap w.params) s.abs) = some (true) := by
  kernel_rfl
theorem lrunB (w : World) (os : PySem.OsState) : (endF (stepQ (denQ tabQ) lR.prog w) 20000 lR.prog w os).map (fun s => seenQ (PySem.W.view lR.prog [48]) loose (importedModules lR.prog.main.body) (fun s => xlAt (PySem.W.view lR.prog [48]) [] s && recOk lR.toRowW.records s) s.abs) = some (openGood (PySem.W.view lR.prog [48]) loose) := by
  kernel_rfl
theorem lrunC (w : World) (os : PySem.OsState) : (endF (stepQ (denQ tabQ) lR.prog w) 20000 lR.prog w os).map (lob) = some (lhk.val w) := by
  kernel_rfl
end
theorem lrun (w : World) : HandSHeadRun.RunEq lR (PySem.W.view lR.prog [48]) lhk lob 20000 loose w := fun os => map3 (lrunA w os) (lrunB w os) (lrunC w os)
end Ft
namespace Ft
open PySem PySem.Spec L2
abbrev Qv := W → Sto → Prop
abbrev Xv := Ev → Sto → Prop
abbrev KF := Nat → List W → Sto → Qv → Xv → Prop
/-- there, and so -/
def oP {α : Type} (o : Option α) (f : α → Prop) : Prop := match o with
  | some a => f a
  | none => False
theorem oP_some {α : Type} {a : α} {f : α → Prop} : oP (some a) f = f a := rfl
theorem oP_none {α : Type} {f : α → Prop} : oP none f = False := rfl
/-- data, and so -/
def dP (w : W) (f : D → Prop) : Prop := match w with
  | .d x => f x
  | .ref _ => False
theorem dP_d {x : D} {f : D → Prop} : dP (.d x) f = f x := rfl
theorem dP_ref {n : Nat} {f : D → Prop} : dP (.ref n) f = False := rfl
def getL (τ : Lo) (i : Nat) : Option W := match τ[i]? with
  | some (some w) => some w
  | _ => none
def consO (o : Option D) (ys : List D) : List D := match o with
  | some y => y :: ys
  | none => ys
def wComp (turn : D → Sto → (Option D → Sto → Prop) → Prop) : List D → Sto → (List D → Sto → Prop) → Prop
  | [], S, Q => Q [] S
  | x :: r, S, Q => turn x S fun o S1 => wComp turn r S1 fun ys S2 => Q (consO o ys) S2
def wComp2 (turn : D → Sto → (List D → Sto → Prop) → Prop) : List D → Sto → (List D → Sto → Prop) → Prop
  | [], S, Q => Q [] S
  | x :: r, S, Q => turn x S fun ys S1 => wComp2 turn r S1 fun zs S2 => Q (ys ++ zs) S2
def noX : Xv := fun _ _ => False
def intP (w : W) (f : Int → Prop) : Prop := match w with
  | .d (.int i) => f i
  | _ => False
theorem intP_d {i : Int} {f : Int → Prop} : intP (.d (.int i)) f = f i := rfl
def boolP (o : Option D) (a b : Prop) : Prop := match o with
  | some (.bool true) => a
  | some (.bool false) => b
  | _ => False
theorem boolP_b {c : Bool} {a b : Prop} : boolP (some (.bool c)) a b = if c = true then a else b := by cases c <;> simp [boolP]
def strP (w : W) (f : Str → Prop) : Prop := match w with
  | .d (.str s) => f s
  | _ => False
theorem strP_d {s : Str} {f : Str → Prop} : strP (.d (.str s)) f = f s := rfl
def lenP (o : Option D) (f : Nat → Prop) : Prop := match o with
  | some (.list xs) => f xs.length
  | some (.tuple xs) => f xs.length
  | some (.str s) => s.length ≤ sizeLine ∧ f s.length
  | _ => False
theorem lenP_list {xs : List D} {f : Nat → Prop} : lenP (some (.list xs)) f = f xs.length := rfl
theorem lenP_tuple {xs : List D} {f : Nat → Prop} : lenP (some (.tuple xs)) f = f xs.length := rfl
theorem lenP_str {s : Str} {f : Nat → Prop} : lenP (some (.str s)) f = (s.length ≤ sizeLine ∧ f s.length) := rfl
def zipP (w u : W) (f : List D → Prop) : Prop := match w, u with
  | .d x, .d y => oP (dSeq x) fun xs => oP (dSeq y) fun ys => f (zipItems xs ys)
  | _, _ => False
theorem zipP_d {x y : D} {f : List D → Prop} : zipP (.d x) (.d y) f = oP (dSeq x) fun xs => oP (dSeq y) fun ys => f (zipItems xs ys) := rfl
/-- a list of the store -/
def dlP (S : Sto) (n : Nat) (f : List D → Prop) : Prop := match S[n]? with
  | some (.dl xs) => f xs
  | _ => False
def mlP (gd : List D → List D → Option D) (gs : List D → List D → Option (D × List D)) (w : W) (S1 : Sto) (run : (List W → Sto → Prop) → Prop) (Q : Qv) : Prop := match w with
  | .d (.list ys) => run fun ws S2 => oP (datas ws) fun xs => oP (gd ys xs) fun z => Q (.d z) S2
  | .ref n => dlP S1 n fun _ => run fun ws S2 => dlP S2 n fun ys => oP (datas ws) fun xs => oP (gs ys xs) fun p => Q (.d p.1) (S2.set n (.dl p.2))
  | _ => False
theorem mlP_ref {gd : List D → List D → Option D} {gs : List D → List D → Option (D × List D)} {n : Nat} {S1 : Sto} {run : (List W → Sto → Prop) → Prop} {Q : Qv} : mlP gd gs (.ref n) S1 run Q = dlP S1 n fun _ => run fun ws S2 => dlP S2 n fun ys => oP (datas ws) fun xs => oP (gs ys xs) fun p => Q (.d p.1) (S2.set n (.dl p.2)) := rfl
def frzP (w : W) (S1 : Sto) (Q : Qv) : Prop := match w with
  | .d x => Q (.d x) S1
  | .ref n => match S1[n]? with
    | some (.dl xs) => Q (.d (.list xs)) (S1.set n (.fz xs))
    | some (.fz xs) => Q (.d (.list xs)) S1
    | _ => False
theorem frzP_d {x : D} {S1 : Sto} {Q : Qv} : frzP (.d x) S1 Q = Q (.d x) S1 := rfl
/-- an object of the store -/
def obP (S : Sto) (n : Nat) (f : Ob → Prop) : Prop := oP S[n]? f
/-- a tuple of two -/
def rtO (o : Ob) (f : W → W → Prop) : Prop := match o with
  | .rt [a, b] => f a b
  | _ => False
theorem rtO_c {a b : W} {f : W → W → Prop} : rtO (.rt [a, b]) f = f a b := rfl
def rtP (S : Sto) (w : W) (f : W → W → Prop) : Prop := match w with
  | .ref n => oP S[n]? fun o => rtO o f
  | _ => False
def rtsO (o : Ob) (f : List W → Prop) : Prop := match o with
  | .rt ws => f ws
  | _ => False
theorem rtsO_c {ws : List W} {f : List W → Prop} : rtsO (.rt ws) f = f ws := rfl
def rtsP (S : Sto) (w : W) (f : List W → Prop) : Prop := match w with
  | .ref n => oP S[n]? fun o => rtsO o f
  | _ => False
/-- a list -/
def lsP (x : D) (f : List D → Prop) : Prop := match x with
  | .list xs => f xs
  | _ => False
theorem lsP_l {xs : List D} {f : List D → Prop} : lsP (.list xs) f = f xs := rfl
/-- o[y] = w -/
def putO (o : Ob) (y : D) (w : W) (K : Ob → Prop) : Prop := match o with
  | .dl xs => (match y, w with
    | .int k, .d x => oP (L2.ixN xs.length k) fun j => K (.dl (xs.set j x))
    | _, _ => False)
  | .rl ws => (match y with
    | .int k => oP (L2.ixN ws.length k) fun j => K (.rl (ws.set j w))
    | _ => False)
  | .mp kvs => oP (keyM y) fun k => (okM kvs k = true ∧ kvs.length < sizeLine) ∧ K (.mp (putM kvs k w))
  | _ => False
theorem putO_dl {xs : List D} {k : Int} {x : D} {K : Ob → Prop} : putO (.dl xs) (.int k) (.d x) K = oP (L2.ixN xs.length k) fun j => K (.dl (xs.set j x)) := rfl
theorem putO_rl {ws : List W} {k : Int} {w : W} {K : Ob → Prop} : putO (.rl ws) (.int k) w K = oP (L2.ixN ws.length k) fun j => K (.rl (ws.set j w)) := rfl
theorem putO_mp {kvs : List (NestedKey × W)} {y : D} {w : W} {K : Ob → Prop} : putO (.mp kvs) y w K = oP (keyM y) fun k => (okM kvs k = true ∧ kvs.length < sizeLine) ∧ K (.mp (putM kvs k w)) := rfl
def putP (p q w : W) (S2 : Sto) (K : Sto → Prop) : Prop := match p, q with
  | .ref n, .d y => obP S2 n fun o => putO o y w fun o' => K (S2.set n o')
  | _, _ => False
theorem putP_r {n : Nat} {y : D} {w : W} {S2 : Sto} {K : Sto → Prop} : putP (.ref n) (.d y) w S2 K = obP S2 n fun o => putO o y w fun o' => K (S2.set n o') := rfl
/-- o[y] -/
def subO (o : Ob) (y : D) (f : W → Prop) : Prop := match o with
  | .dl xs => oP (dSub (.list xs) y) fun z => f (.d z)
  | .fz xs => oP (dSub (.list xs) y) fun z => f (.d z)
  | .rl ws => (match y with
    | .int i => oP (L2.atI ws i) f
    | _ => False)
  | .mp kvs => oP (keyM y) fun k => okM kvs k = true ∧ oP (atM kvs k) f
  | _ => False
theorem subO_dl {xs : List D} {y : D} {f : W → Prop} : subO (.dl xs) y f = oP (dSub (.list xs) y) fun z => f (.d z) := rfl
theorem subO_fz {xs : List D} {y : D} {f : W → Prop} : subO (.fz xs) y f = oP (dSub (.list xs) y) fun z => f (.d z) := rfl
theorem subO_rl {ws : List W} {i : Int} {f : W → Prop} : subO (.rl ws) (.int i) f = oP (L2.atI ws i) f := rfl
theorem subO_mp {kvs : List (NestedKey × W)} {y : D} {f : W → Prop} : subO (.mp kvs) y f = oP (keyM y) fun k => okM kvs k = true ∧ oP (atM kvs k) f := rfl
def subP (S : Sto) (w u : W) (f : W → Prop) : Prop := match w with
  | .d x => dP u fun y => oP (dSub x y) fun z => f (.d z)
  | .ref n => obP S n fun o => dP u fun y => subO o y f
theorem subP_d {S : Sto} {x : D} {u : W} {f : W → Prop} : subP S (.d x) u f = dP u fun y => oP (dSub x y) fun z => f (.d z) := rfl
theorem subP_r {S : Sto} {n : Nat} {u : W} {f : W → Prop} : subP S (.ref n) u f = obP S n fun o => dP u fun y => subO o y f := rfl
/-- a dict -/
def mpO (o : Ob) (f : List (NestedKey × W) → Prop) : Prop := match o with
  | .mp kvs => f kvs
  | _ => False
theorem mpO_m {kvs : List (NestedKey × W)} {f : List (NestedKey × W) → Prop} : mpO (.mp kvs) f = f kvs := rfl
def mpP (S : Sto) (w : W) (f : Nat → List (NestedKey × W) → Prop) : Prop := match w with
  | .ref n => obP S n fun o => mpO o (f n)
  | _ => False
theorem mpP_r {S : Sto} {n : Nat} {f : Nat → List (NestedKey × W) → Prop} : mpP S (.ref n) f = obP S n fun o => mpO o (f n) := rfl
/-- d.setdefault -/
def dsP (S : Sto) (n : Nat) (kvs : List (NestedKey × W)) (k : NestedKey) (v : W) (Q : Qv) : Prop := match atM kvs k with
  | some z => Q z S
  | none => kvs.length < sizeLine ∧ Q v (S.set n (.mp (putM kvs k v)))
def tupP (w : W) (f : D → List D → Prop) (g : Prop) : Prop := match w with
  | .d (.tuple (y :: ys)) => f y ys
  | .d (.tuple []) => g
  | _ => False
theorem tupP_c {y : D} {ys : List D} {f : D → List D → Prop} {g : Prop} : tupP (.d (.tuple (y :: ys))) f g = f y ys := rfl
theorem tupP_n {f : D → List D → Prop} {g : Prop} : tupP (.d (.tuple [])) f g = g := rfl
section
variable (C : KF)
mutual
def wE (τ : Lo) (S : Sto) (X : Xv) : Ex → Qv → Prop
  | .var i, Q => oP (getL τ i) fun w => Q w S
  | .c x, Q => Q (.d x) S
  | .op1 g a, Q => wE τ S X a fun w S1 => dP w fun x => oP (g x) fun z => Q (.d z) S1
  | .op2 g a b, Q => wE τ S X a fun w S1 => wE τ S1 X b fun u S2 => dP w fun x => dP u fun y => oP (g x y) fun z => Q (.d z) S2
  | .opn g es, Q => wEs τ S X es fun ws S1 => oP (datas ws) fun xs => oP (g xs) fun z => Q (.d z) S1
  | .ite t a b, Q => wT τ S X t fun c S1 => if c = true then wE τ S1 X a Q else wE τ S1 X b Q
  | .and a b, Q => wE τ S X a fun w S1 => oP (wTruth w S1) fun c => if c = true then wE τ S1 X b Q else Q w S1
  | .or a b, Q => wE τ S X a fun w S1 => oP (wTruth w S1) fun c => if c = true then Q w S1 else wE τ S1 X b Q
  | .not a, Q => wE τ S X a fun w S1 => oP (wTruth w S1) fun c => Q (.d (.bool (!c))) S1
  | .chain g h a b c, Q => wE τ S X a fun w S1 => wE τ S1 X b fun u S2 => dP w fun x => dP u fun y => boolP (g x y) (wE τ S2 X c fun v S3 => dP v fun z => oP (h y z) fun r => Q (.d r) S3) (Q (.d (.bool false)) S2)
  | .tup es, Q => wEs τ S X es fun ws S1 => oP (datas ws) fun xs => xs.length ≤ sizeLine ∧ Q (.d (.tuple xs)) S1
  | .lst es, Q => wEs τ S X es fun ws S1 => oP (datas ws) fun xs => xs.length ≤ sizeLine ∧ Q (.d (.list xs)) S1
  | .nlst es, Q => wEs τ S X es fun ws S1 => oP (datas ws) fun xs => xs.length ≤ sizeLine ∧ Q (.ref S1.length) (S1 ++ [.dl xs])
  | .sub a i, Q => wE τ S X a fun w S1 => wE τ S1 X i fun u S2 => oP (asData S2 w) fun x => dP u fun y => oP (dSub x y) fun z => Q (.d z) S2
  | .slice a lo hi, Q => wE τ S X a fun w S1 => wE τ S1 X lo fun u S2 => oP (part u) fun l => wE τ S2 X hi fun v S3 => oP (asData S3 w) fun x => oP (part v) fun h => oP (dSlice x (some l) (some h)) fun z => Q (.d z) S3
  | .sliceL a lo, Q => wE τ S X a fun w S1 => wE τ S1 X lo fun u S2 => oP (asData S2 w) fun x => oP (part u) fun l => oP (dSlice x (some l) none) fun z => Q (.d z) S2
  | .sliceR a hi, Q => wE τ S X a fun w S1 => wE τ S1 X hi fun u S2 => oP (asData S2 w) fun x => oP (part u) fun h => oP (dSlice x none (some h)) fun z => Q (.d z) S2
  | .sliceN a, Q => wE τ S X a fun w S1 => oP (asData S1 w) fun x => oP (dSlice x none none) fun z => Q (.d z) S1
  | .call f es, Q => wEs τ S X es fun ws S1 => C f ws S1 Q X
  | .callk f es ks perm, Q => wEs τ S X es fun ws S1 => wEs τ S1 X ks fun wk S2 => oP (pickx (ws ++ wk) perm) fun us => C f us S2 Q X
  | .comp vs e tg it t, Q => wI τ S X it fun xs S1 => xs.length ≤ sizeLine ∧ wComp (fun x S' K => wP (wip τ vs) S' tg (.d x) fun τ' S0 => wT τ' S0 noX t fun b S2 => if b = true then wE τ' S2 noX e (fun w S3 => dP w fun y => K (some y) S3) else K none S2) xs S1 fun ys S2 => Q (.d (.list ys)) S2
  | .compN vs e tg it t, Q => wI τ S X it fun xs S1 => xs.length ≤ sizeLine ∧ wComp (fun x S' K => wP (wip τ vs) S' tg (.d x) fun τ' S0 => wT τ' S0 noX t fun b S2 => if b = true then wE τ' S2 noX e (fun w S3 => dP w fun y => K (some y) S3) else K none S2) xs S1 fun ys S2 => Q (.ref S2.length) (S2 ++ [.dl ys])
  | .dcomp vs kx vx tg it t, Q => wI τ S X it fun xs S1 => xs.length ≤ sizeLine ∧ wComp (fun x S' K => wP (wip τ vs) S' tg (.d x) fun τ' S0 => wT τ' S0 noX t fun b S2 => if b = true then wE τ' S2 noX kx (fun w S3 => wE τ' S3 noX vx fun u S4 => oP (pairW w u) fun z => dP z fun y => K (some y) S4) else K none S2) xs S1 fun ys S2 => oP (dictOf [] ys) fun kvs => Q (.ref S2.length) (S2 ++ [.dd kvs])
  | .inD a b, Q => wE τ S X a fun w S1 => wE τ S1 X b fun u S2 => oP (hasD S2 w u) fun c => Q (.d (.bool c)) S2
  | .dnew, Q => Q (.ref S.length) (S ++ [.mp []])
  | .dz, Q => Q (.d (.dict [])) S
  | .nbin g a b, Q => wE τ S X a fun w S1 => wE τ S1 X b fun u S2 => dP w fun x => dP u fun y => oP (g x y) fun z => lsP z fun zs => zs.length ≤ sizeLine ∧ Q (.ref S2.length) (S2 ++ [.dl zs])
  | .cmpR g a b, Q => wE τ S X a fun w S1 => wE τ S1 X b fun u S2 => oP (asData S2 w) fun x => oP (asData S2 u) fun y => oP (g x y) fun z => Q (.d z) S2
  | .rtup es, Q => wEs τ S X es fun ws S1 => ws.length ≤ sizeLine ∧ Q (.ref S1.length) (S1 ++ [.rt ws])
  | .rlst es, Q => wEs τ S X es fun ws S1 => ws.length ≤ sizeLine ∧ Q (.ref S1.length) (S1 ++ [.rl ws])
  | .subR a i, Q => wE τ S X a fun w S1 => wE τ S1 X i fun u S2 => subP S2 w u fun z => Q z S2
  | .dget a k x, Q => wE τ S X a fun w S1 => mpP S1 w fun _ _ => wE τ S1 X k fun u S2 => wE τ S2 X x fun v S3 => mpP S3 w fun _ kvs => dP u fun y => oP (keyM y) fun k => okM kvs k = true ∧ Q ((atM kvs k).getD v) S3
  | .dset a k x, Q => wE τ S X a fun w S1 => mpP S1 w fun _ _ => wE τ S1 X k fun u S2 => wE τ S2 X x fun v S3 => mpP S3 w fun n kvs => dP u fun y => oP (keyM y) fun k => okM kvs k = true ∧ dsP S3 n kvs k v Q
  | .dkeys a, Q => wE τ S X a fun w S1 => mpP S1 w fun _ kvs => kvs.length ≤ sizeLine ∧ Q (.d (.list (kvs.map fun kv => kv.1.data))) S1
  | .dsort a, Q => wE τ S X a fun w S1 => mpP S1 w fun _ kvs => oP (sortM kvs) fun xs => Q (.d (.list xs)) S1
  | .demp b a, Q => wE τ S X a fun w S1 => mpP S1 w fun _ kvs => Q (.d (.bool (kvs.isEmpty == b))) S1
  | .comp2 vs vs1 e tg it tg1 it1 t1, Q => wI τ S X it fun xs S1 => xs.length ≤ sizeLine ∧ wComp2 (fun x S' K => wP (wip τ vs) S' tg (.d x) fun τ' S0 => wI τ' S0 noX it1 fun ys S2 => ys.length ≤ sizeLine ∧ wComp (fun x S' K => wP (wip τ' vs1) S' tg1 (.d x) fun τ2 S0 => wT τ2 S0 noX t1 fun b S2 => if b = true then wE τ2 S2 noX e (fun w S3 => dP w fun y => K (some y) S3) else K none S2) ys S2 K) xs S1 fun ys S2 => ys.length ≤ sizeLine ∧ Q (.d (.list ys)) S2
  | .mstr g o es, Q => wE τ S X o fun w S1 => strP w fun s => wEs τ S1 X es fun ws S2 => oP (datas ws) fun xs => oP (g s xs) fun z => Q (.d z) S2
  | .mlst gd gs o es, Q => wE τ S X o fun w S1 => mlP gd gs w S1 (wEs τ S1 X es) Q
  | .len a, Q => wE τ S X a fun w S1 => lenP (asData S1 w) fun n => Q (.d (.int n)) S1
  | .frz a, Q => wE τ S X a fun w S1 => frzP w S1 Q
  | .bad, _ => False
def wEs (τ : Lo) (S : Sto) (X : Xv) : Exs → (List W → Sto → Prop) → Prop
  | .nil, Q => Q [] S
  | .cons e r, Q => wE τ S X e fun w S1 => wEs τ S1 X r fun ws S2 => Q (w :: ws) S2
  | .star e r, Q => wE τ S X e fun w S1 => dP w fun x => oP (dSeq x) fun xs => wEs τ S1 X r fun ws S2 => Q (xs.map W.d ++ ws) S2
def wT (τ : Lo) (S : Sto) (X : Xv) : Te → (Bool → Sto → Prop) → Prop
  | .tt, Q => Q true S
  | .e x, Q => wE τ S X x fun w S1 => oP (wTruth w S1) fun c => Q c S1
  | .and a b, Q => wT τ S X a fun c S1 => if c = true then wT τ S1 X b Q else Q false S1
  | .or a b, Q => wT τ S X a fun c S1 => if c = true then Q true S1 else wT τ S1 X b Q
  | .not a, Q => wT τ S X a fun c S1 => Q (!c) S1
  | .ite c a b, Q => wT τ S X c fun x S1 => if x = true then wT τ S1 X a Q else wT τ S1 X b Q
def wI (τ : Lo) (S : Sto) (X : Xv) : Ie → (List D → Sto → Prop) → Prop
  | .seq e, Q => wE τ S X e fun w S1 => dP w fun x => oP (dItems x) fun xs => Q xs S1
  | .rng a b, Q => wE τ S X a fun w S1 => wE τ S1 X b fun u S2 => intP w fun i => intP u fun j => (-(2 ^ 62) ≤ i ∧ i < 2 ^ 62 ∧ -(2 ^ 62) ≤ j ∧ j < 2 ^ 62) ∧ Q (rngItems i j) S2
  | .rng3 a b c, Q => wE τ S X a fun w S1 => wE τ S1 X b fun u S2 => wE τ S2 X c fun v S3 => intP w fun i => intP u fun j => intP v fun k => (k ≠ 0 ∧ k.natAbs < 1073741824 ∧ Builtin.Range.small i j k = true ∧ 0 ≤ Builtin.Range.rangeSize i j k) ∧ Q (rngItems3 i j k) S3
  | .enum e, Q => wE τ S X e fun w S1 => dP w fun x => oP (dSeq x) fun xs => Q (enumItems xs 0) S1
  | .zip a b, Q => wE τ S X a fun w S1 => wE τ S1 X b fun u S2 => zipP w u fun xs => Q xs S2
def wP (τ : Lo) (S : Sto) : Tg → W → (Lo → Sto → Prop) → Prop
  | .v i, w, K => K (τ.set i (some w)) S
  | .e, w, K => tupP w (fun _ _ => False) (K τ S)
  | .t l r, w, K => tupP w (fun y ys => wP τ S l (.d y) fun τ1 S1 => wP τ1 S1 r (.d (.tuple ys)) K) False
  | .s o i, w, K => wE τ S noX o fun p S1 => wE τ S1 noX i fun q S2 => putP p q w S2 fun S3 => K τ S3
  | .u i j, w, K => rtP S w fun a b => K ((τ.set i (some a)).set j (some b)) S
  | .us is, w, K => rtsP S w fun ws => ws.length = is.length ∧ K (setAll τ is ws) S
end
abbrev Rv := Fl → Sto → Prop
def wFor (turn : D → Lo → Sto → Rv → Prop) : List D → Lo → Sto → Rv → Prop
  | [], τ, S, R => R (.nx τ) S
  | x :: r, τ, S, R => turn x τ S fun f S1 => match f with
    | .nx τ1 => wFor turn r τ1 S1 R
    | .cnt τ1 => wFor turn r τ1 S1 R
    | .brk τ1 => R (.nx τ1) S1
    | .ret w => R (.ret w) S1
    | .rs τ1 e => R (.rs τ1 e) S1
def wWhl (t : Lo → Sto → Xv → (Bool → Sto → Prop) → Prop) (body : Lo → Sto → Rv → Prop) : Nat → Lo → Sto → Rv → Prop
  | 0, _, _, _ => False
  | n + 1, τ, S, R => t τ S (fun e S1 => R (.rs τ e) S1) fun c S1 => if c = true then body τ S1 fun f S2 => match f with
      | .nx τ1 => wWhl t body n τ1 S2 R
      | .cnt τ1 => wWhl t body n τ1 S2 R
      | .brk τ1 => R (.nx τ1) S2
      | .ret w => R (.ret w) S2
      | .rs τ1 e => R (.rs τ1 e) S2
    else R (.nx τ) S1
mutual
def wS (τ : Lo) (S : Sto) : Sm → Rv → Prop
  | .ex e, R => wE C τ S (fun e S1 => R (.rs τ e) S1) e fun _ S1 => R (.nx τ) S1
  | .asg t e, R => wE C τ S (fun e S1 => R (.rs τ e) S1) e fun w S1 => wP C τ S1 t w fun τ1 S2 => R (.nx τ1) S2
  | .par i j a b, R => wE C τ S (fun e S1 => R (.rs τ e) S1) a fun w S1 => wE C τ S1 (fun e S1 => R (.rs τ e) S1) b fun u S2 => R (.nx ((τ.set i (some w)).set j (some u))) S2
  | .par3 i j l a b c, R => wE C τ S (fun e S1 => R (.rs τ e) S1) a fun w S1 => wE C τ S1 (fun e S1 => R (.rs τ e) S1) b fun u S2 => wE C τ S2 (fun e S1 => R (.rs τ e) S1) c fun v S3 => R (.nx (((τ.set i (some w)).set j (some u)).set l (some v))) S3
  | .aug i g e, R => oP (getL τ i) fun z => dP z fun x => wE C τ S (fun e S1 => R (.rs τ e) S1) e fun w S1 => dP w fun y => oP (g x y) fun z => R (.nx (τ.set i (some (.d z)))) S1
  | .ret e, R => wE C τ S (fun e S1 => R (.rs τ e) S1) e fun w S1 => R (.ret w) S1
  | .ifs t a b, R => wT C τ S (fun e S1 => R (.rs τ e) S1) t fun c S1 => if c = true then wB τ S1 a R else wB τ S1 b R
  | .fors tg it b, R => wI C τ S (fun e S1 => R (.rs τ e) S1) it fun xs S1 => xs.length ≤ sizeLine ∧ wFor (fun x τ S K => wP C τ S tg (.d x) fun τ1 S1 => wB τ1 S1 b K) xs τ S1 R
  | .whl t b, R => wWhl (fun τ S X Q => wT C τ S X t Q) (fun τ S K => wB τ S b K) whlMost τ S R
  | .pass, R => R (.nx τ) S
  | .brk, R => R (.brk τ) S
  | .cnt, R => R (.cnt τ) S
def wB (τ : Lo) (S : Sto) : Bk → Rv → Prop
  | .nil, R => R (.nx τ) S
  | .cons s r, R => wS τ S s fun f S1 => match f with
    | .nx τ1 => wB τ1 S1 r R
    | f => R f S1
end
def runP (Q : Qv) (X : Xv) : Rv := fun f S1 => match f with
  | .nx _ => Q (.d .none) S1
  | .ret w => Q w S1
  | .rs _ e => X e S1
  | _ => False
def wRun (fd : Fn) (ws : List W) (S : Sto) (Q : Qv) (X : Xv) : Prop := wB C (begin_ fd.ns ws) S fd.body (runP Q X)
end
def isoP (fresh : Bool) (S : Sto) (ns : List Nat) (Q : Qv) : Qv := fun w S1 => oP (putShut S ns S1) fun S2 => match w with
  | .d x => Q (.d x) S2
  | .ref k => if k < ns.length then oP (ns[k]?) fun n => Q (.ref n) S2 else match S1[k]? with
    | some (.dl xs) => if fresh = true then Q (.ref S2.length) (S2 ++ [.dl xs]) else Q (.d (.list xs)) S2
    | some (.dd xs) => if fresh = true then Q (.ref S2.length) (S2 ++ [.dd xs]) else False
    | some (.mp xs) => (fresh = true ∧ allD xs = true) ∧ Q (.ref S2.length) (S2 ++ [.mp xs])
    | _ => False
def wIso (fresh : Bool) (run : List W → Sto → Qv → Xv → Prop) (ws : List W) (S : Sto) (Q : Qv) (X : Xv) : Prop :=
  distinct (refsOf ws) = true ∧ oP (getShut S (refsOf ws)) fun obs => run (isoIn ws 0) obs (isoP fresh S (refsOf ws) Q) fun e S1 => oP (putShut S (refsOf ws) S1) fun S2 => X e S2
end Ft
namespace Ft
open PySem PySem.Spec L2
def Ok {α : Type} (r : Res α) (Q : α → Sto → Prop) : Prop := match r with
  | .ok a S => Q a S
  | _ => False
@[simp] theorem Ok_ok {α : Type} {a : α} {S : Sto} {Q : α → Sto → Prop} : Ok (.ok a S) Q = Q a S := rfl
@[simp] theorem Ok_no {α : Type} {Q : α → Sto → Prop} : Ok (.no : Res α) Q = False := rfl
theorem Ok.mono {α : Type} {r : Res α} {Q R : α → Sto → Prop} (h : Ok r Q) (i : ∀ a S, Q a S → R a S) : Ok r R := by
  cases r with
  | ok a S => exact i a S h
  | _ => exact h
theorem Ok_bind {α β : Type} {r : Res α} {f : α → Sto → Res β} {Q : β → Sto → Prop} : Ok (r.bind f) Q = Ok r fun a S => Ok (f a S) Q := by
  cases r <;> rfl
theorem Ok.up {α : Type} {τ : Lo} {r : Res α} {f : α → Sto → Res Fl} {Q : Fl → Sto → Prop} (h : Ok r fun a S => Ok (f a S) Q) : Ok (r.up τ f) Q := by
  cases r with
  | ok a S => exact h
  | _ => exact h.elim
theorem Ok.dry {α : Type} {r : Res α} {Q : α → Sto → Prop} (h : Ok r Q) : Ok r.dry Q := by
  cases r with
  | ok a S => exact h
  | _ => exact h.elim
theorem Ok.eq {α : Type} {r : Res α} {a : α} {S : Sto} {Q : α → Sto → Prop} (e : r = .ok a S) (h : Q a S) : Ok r Q := by
  rw [e]; exact h
theorem Ok.ex {α : Type} {r : Res α} {Q : α → Sto → Prop} (h : Ok r Q) : ∃ a S, r = .ok a S ∧ Q a S := by
  cases r with
  | ok a S => exact ⟨a, S, rfl, h⟩
  | _ => exact h.elim
/-- a for over data -/
theorem ok_for {put : Lo → D → Sto → Res Lo} {body : Lo → Sto → Res Fl} {Q : Fl → Sto → Prop} (I : List D → Lo → Sto → Prop) (hd : ∀ τ S, I [] τ S → Q (.nx τ) S)
    (hs : ∀ x r τ S, I (x :: r) τ S → Ok (put τ x S) fun τ1 S1 => Ok (body τ1 S1) fun f S2 => match f with
      | .nx τ2 => I r τ2 S2
      | .cnt τ2 => I r τ2 S2
      | .brk τ2 => Q (.nx τ2) S2
      | .ret w => Q (.ret w) S2
      | .rs τ2 e => Q (.rs τ2 e) S2) : ∀ xs τ S, I xs τ S → Ok (forL put body xs τ S) Q
  | [], τ, S, h => hd τ S h
  | x :: r, τ, S, h => by
    unfold forL
    refine Ok.up ((hs x r τ S h).mono fun τ1 S1 h1 => ?_)
    rw [Ok_bind]
    refine h1.mono fun f S2 h2 => ?_
    cases f with
    | nx τ2 => exact ok_for I hd hs r τ2 S2 h2
    | cnt τ2 => exact ok_for I hd hs r τ2 S2 h2
    | _ => exact h2
theorem putShut_nil {S X : Sto} : putShut S [] X = some S := by
  unfold putShut
  rfl
/-- statements -/
theorem ok_cons {F : Fs} {τ : Lo} {S : Sto} {s : Sm} {r : Bk} {Q : Fl → Sto → Prop} (h : Ok (exe F τ S s) fun f S1 => match f with
      | .nx τ1 => Ok (exs F τ1 S1 r) Q
      | f => Q f S1) : Ok (exs F τ S (.cons s r)) Q := by
  simp only [exs, Ok_bind]
  refine h.mono fun f S1 q => ?_
  cases f <;> exact q
theorem exs_nil {F : Fs} {τ : Lo} {S : Sto} : exs F τ S .nil = .ok (.nx τ) S := by simp only [exs]
theorem Ok_exs_nil {F : Fs} {τ : Lo} {S : Sto} {Q : Fl → Sto → Prop} : Ok (exs F τ S .nil) Q = Q (.nx τ) S := by rw [exs_nil]; rfl
theorem ev_nlst {F : Fs} {τ : Lo} {S : Sto} {es : Exs} : ev F τ S (.nlst es) = (evs F τ S es).bind fun ws S1 => match datas ws with
    | some xs => if xs.length ≤ sizeLine then .ok (.ref S1.length) (S1 ++ [.dl xs]) else .no
    | none => .no := by
  simp only [ev] <;> rfl
theorem evs_cons {F : Fs} {τ : Lo} {S : Sto} {e : Ex} {r : Exs} : evs F τ S (.cons e r) = (ev F τ S e).bind fun w S1 => (evs F τ S1 r).bind fun ws S2 => .ok (w :: ws) S2 := by simp only [evs]
theorem sizeLine16 : sizeLine = 16777216 := by decide
end Ft
namespace Ft
open PySem PySem.Spec L2
def Wl (t : Int) (w : Ob) : Prop := ∃ (a b c : Int) (tl : List D), w = .dl (.int a :: .int b :: .int c :: tl) ∧ 0 ≤ a ∧ 0 ≤ b ∧ b < 2 ^ 40 ∧ 0 ≤ c ∧ c ≤ t
theorem Wl.shut {t : Int} {w : Ob} (h : Wl t w) : w.shut = true := by
  obtain ⟨a, b, c, tl, rfl, _⟩ := h
  rfl
theorem Wl.mono {t u : Int} {w : Ob} (h : Wl t w) (q : t ≤ u) : Wl u w := by
  obtain ⟨a, b, c, tl, e, h1, h2, h3, h4, h5⟩ := h
  exact ⟨a, b, c, tl, e, h1, h2, h3, h4, by omega⟩
theorem ix0 {n : Nat} : ixN (n + 1) 0 = some 0 := by unfold ixN; simp
theorem ix1 {n : Nat} : ixN (n + 1 + 1) 1 = some 1 := by unfold ixN; simp; omega
theorem ix2 {n : Nat} : ixN (n + 1 + 1 + 1) 2 = some 2 := by unfold ixN; simp; omega
theorem at0 {x : D} {r : List D} : atI (x :: r) 0 = some x := by unfold atI; rw [List.length_cons, ix0]; rfl
theorem at1 {x y : D} {r : List D} : atI (x :: y :: r) 1 = some y := by unfold atI; rw [List.length_cons, List.length_cons, ix1]; rfl
theorem at2 {x y z : D} {r : List D} : atI (x :: y :: z :: r) 2 = some z := by unfold atI; rw [List.length_cons, List.length_cons, List.length_cons, ix2]; rfl
/-- how many bits -/
theorem bits_le {i : Int} {k : Nat} (h : i.natAbs < 2 ^ k) : Builtin.Int.intBits i ≤ k := by
  unfold Builtin.Int.intBits
  split
  · exact Nat.zero_le _
  · rename_i hz
    have hn : i.natAbs ≠ 0 := fun e => hz (by simp [Int.natAbs_eq_zero.mp e])
    exact (Nat.log2_lt hn).mpr h
theorem mul_ok {i j : Int} {a b : Nat} (hi : i.natAbs < 2 ^ a) (hj : j.natAbs < 2 ^ b) (h : a + b ≤ 134217728) : mulOk i j = true := by
  have := bits_le hi
  have := bits_le hj
  unfold mulOk
  exact decide_eq_true (by omega)
def drawB (c1 c2 c3 c4 c5 md : Int) : Bk :=
  (.cons (.ifs (.e (.op2 dGt (.sub (.var 0) (.c (.int 0))) (.c (.int 0))))
  (.cons (.asg (.t (.s (.var 0) (.c (.int 0))) (.t (.v 3) .e)) (.opn cDivmod (.cons (.sub (.var 0) (.c (.int 0))) (.cons (.var 1) .nil))))
  (.cons (.ret (.var 3))
  .nil))
  .nil)
  (.cons (.asg (.s (.var 0) (.c (.int 2))) (.op2 dAdd (.sub (.var 0) (.c (.int 2))) (.c (.int 1))))
  (.cons (.asg (.v 2) (.op2 dMod (.opn cInt (.cons (.op2 dAdd (.sub (.var 0) (.c (.int 1))) (.op2 dMul' (.c (.int c1)) (.sub (.var 0) (.c (.int 2))))) .nil)) (.c (.int md))))
  (.cons (.asg (.s (.var 0) (.c (.int 1))) (.op2 dMod (.opn cInt (.cons (.op2 dAdd (.op2 dMul' (.var 2) (.op2 dAdd (.op2 dMod (.opn cInt (.cons (.var 2) .nil)) (.c (.int c2))) (.c (.int c3)))) (.op2 dMul' (.c (.int c4)) (.sub (.var 0) (.c (.int 2))))) .nil)) (.c (.int md))))
  (.cons (.ret (.op2 dMod (.opn cInt (.cons (.op2 dDiv (.sub (.var 0) (.c (.int 1))) (.c (.int c5))) .nil)) (.var 1)))
  .nil)))))
theorem draw_run {N : Nat} {c1 c2 c3 c4 c5 md m t : Int} {F : Fs} {w : Ob} (k1 : 0 ≤ c1 ∧ c1 < 2 ^ 40) (k2 : 0 < c2 ∧ c2 < 2 ^ 40) (k3 : 0 ≤ c3 ∧ c3 < 2 ^ 40) (k4 : 0 ≤ c4 ∧ c4 < 2 ^ 40) (k5 : 0 < c5 ∧ c5 < 4611686018427387904) (k6 : 0 < md ∧ md < 2 ^ 40)
    (hm : 0 < m) (hm2 : m < 4611686018427387904) (hw : Wl t w) (hN : N ≤ 100001) (ht : t + 1 < ((2 ^ N : Nat) : Int)) {Q : W → Sto → Prop} (h : ∀ d w', 0 ≤ d → d < m → Wl (t + 1) w' → Q (.d (.int d)) [w']) :
    Ok (exs F [some (.ref 0), some (.d (.int m)), none, none] [w] (drawB c1 c2 c3 c4 c5 md)) fun f S1 => match f with
      | .nx _ => Q (.d .none) S1
      | .ret w => Q w S1
      | _ => False := by
  obtain ⟨a, b, c, tl, rfl, h1, h2, h3, h4, h5⟩ := hw
  unfold drawB
  apply ok_cons
  simp only [exs, exe, exs_nil, Ok_exs_nil, evT, evI, ev, evs, put, putW, List.getElem?_cons_zero, List.getElem?_cons_succ, List.set_cons_zero, List.set_cons_succ, Res.bind_ok, Res.up_ok, Res.dry, asData, datas, part, opt_some, Option.map_some, Ok_ok, wTruth, dTruth, dSub, dSlice, W.data, if_true, decide_true, decide_false, Bool.false_eq_true, if_false, List.length_cons, List.length_nil, Nat.reduceAdd, Nat.reduceLeDiff, Nat.zero_add, sizeLine16, dEq, dNe, dAdd, dSub', dMul', dDiv, dMod, dShr, dAnd, dOr, dXor, dNeg, dLt, dLe, dGt, dGe, dIs, dIsNot, cAbs, cMax, cMin, cInt, cDivmod, cTuple, cList, at0]
  by_cases ha : 0 < a
  · simp only [exs, exe, exs_nil, Ok_exs_nil, evT, evI, ev, evs, put, putW, List.getElem?_cons_zero, List.getElem?_cons_succ, List.set_cons_zero, List.set_cons_succ, Res.bind_ok, Res.up_ok, Res.dry, asData, datas, part, opt_some, Option.map_some, Ok_ok, wTruth, dTruth, dSub, dSlice, W.data, if_true, decide_true, decide_false, Bool.false_eq_true, if_false, List.length_cons, List.length_nil, Nat.reduceAdd, Nat.reduceLeDiff, Nat.zero_add, sizeLine16, dEq, dNe, dAdd, dSub', dMul', dDiv, dMod, dShr, dAnd, dOr, dXor, dNeg, dLt, dLe, dGt, dGe, dIs, dIsNot, cAbs, cMax, cMin, cInt, cDivmod, cTuple, cList, ha, at0, hm, hm2, and_self, ix0]
    refine h _ _ (Int.emod_nonneg _ (by omega)) (Int.emod_lt_of_pos _ hm) ⟨_, b, c, tl, rfl, Int.ediv_nonneg h1 (by omega), h2, h3, h4, by omega⟩
  · simp only [exs, exe, exs_nil, Ok_exs_nil, evT, evI, ev, evs, put, putW, List.getElem?_cons_zero, List.getElem?_cons_succ, List.set_cons_zero, List.set_cons_succ, Res.bind_ok, Res.up_ok, Res.dry, asData, datas, part, opt_some, Option.map_some, Ok_ok, wTruth, dTruth, dSub, dSlice, W.data, if_true, decide_true, decide_false, Bool.false_eq_true, if_false, List.length_cons, List.length_nil, Nat.reduceAdd, Nat.reduceLeDiff, Nat.zero_add, sizeLine16, dEq, dNe, dAdd, dSub', dMul', dDiv, dMod, dShr, dAnd, dOr, dXor, dNeg, dLt, dLe, dGt, dGe, dIs, dIsNot, cAbs, cMax, cMin, cInt, cDivmod, cTuple, cList, ha, at2, ix2, List.set_cons_succ]
    have s1 : c1 * (c + 1) ≥ 0 := Int.mul_nonneg k1.1 (by omega)
    have m1 : mulOk c1 (c + 1) = true := mul_ok (a := 40) (b := N) (by omega) (by omega) (by omega)
    have m4 : mulOk c4 (c + 1) = true := mul_ok (a := 40) (b := N) (by omega) (by omega) (by omega)
    simp only [exs, exe, exs_nil, Ok_exs_nil, evT, evI, ev, evs, put, putW, List.getElem?_cons_zero, List.getElem?_cons_succ, List.set_cons_zero, List.set_cons_succ, Res.bind_ok, Res.up_ok, Res.dry, asData, datas, part, opt_some, Option.map_some, Ok_ok, wTruth, dTruth, dSub, dSlice, W.data, if_true, decide_true, decide_false, Bool.false_eq_true, if_false, List.length_cons, List.length_nil, Nat.reduceAdd, Nat.reduceLeDiff, Nat.zero_add, sizeLine16, dEq, dNe, dAdd, dSub', dMul', dDiv, dMod, dShr, dAnd, dOr, dXor, dNeg, dLt, dLe, dGt, dGe, dIs, dIsNot, cAbs, cMax, cMin, cInt, cDivmod, cTuple, cList, at1, at2, m1, k6.1]
    generalize hs : (b + c1 * (c + 1)) % md = sd
    have sd0 : 0 ≤ sd := by rw [← hs]; exact Int.emod_nonneg _ (by omega)
    have sd1 : sd < md := by rw [← hs]; exact Int.emod_lt_of_pos _ k6.1
    have q0 : 0 ≤ sd % c2 := Int.emod_nonneg _ (by omega)
    have q1 : sd % c2 < c2 := Int.emod_lt_of_pos _ k2.1
    have m2 : mulOk sd (sd % c2 + c3) = true := mul_ok (a := 40) (b := 41) (by omega) (by omega) (by omega)
    simp only [exs, exe, exs_nil, Ok_exs_nil, evT, evI, ev, evs, put, putW, List.getElem?_cons_zero, List.getElem?_cons_succ, List.set_cons_zero, List.set_cons_succ, Res.bind_ok, Res.up_ok, Res.dry, asData, datas, part, opt_some, Option.map_some, Ok_ok, wTruth, dTruth, dSub, dSlice, W.data, if_true, decide_true, decide_false, Bool.false_eq_true, if_false, List.length_cons, List.length_nil, Nat.reduceAdd, Nat.reduceLeDiff, Nat.zero_add, sizeLine16, dEq, dNe, dAdd, dSub', dMul', dDiv, dMod, dShr, dAnd, dOr, dXor, dNeg, dLt, dLe, dGt, dGe, dIs, dIsNot, cAbs, cMax, cMin, cInt, cDivmod, cTuple, cList, at1, at2, m2, m4, k6.1, k2.1, ix1]
    generalize hb : (sd * (sd % c2 + c3) + c4 * (c + 1)) % md = b'
    have b0 : 0 ≤ b' := by rw [← hb]; exact Int.emod_nonneg _ (by omega)
    have b1 : b' < md := by rw [← hb]; exact Int.emod_lt_of_pos _ k6.1
    simp only [exs, exe, exs_nil, Ok_exs_nil, evT, evI, ev, evs, put, putW, List.getElem?_cons_zero, List.getElem?_cons_succ, List.set_cons_zero, List.set_cons_succ, Res.bind_ok, Res.up_ok, Res.dry, asData, datas, part, opt_some, Option.map_some, Ok_ok, wTruth, dTruth, dSub, dSlice, W.data, if_true, decide_true, decide_false, Bool.false_eq_true, if_false, List.length_cons, List.length_nil, Nat.reduceAdd, Nat.reduceLeDiff, Nat.zero_add, sizeLine16, dEq, dNe, dAdd, dSub', dMul', dDiv, dMod, dShr, dAnd, dOr, dXor, dNeg, dLt, dLe, dGt, dGe, dIs, dIsNot, cAbs, cMax, cMin, cInt, cDivmod, cTuple, cList, at1, k5.1, k5.2, and_self, hm]
    exact h _ _ (Int.emod_nonneg _ (by omega)) (Int.emod_lt_of_pos _ hm) ⟨a, b', c + 1, tl, rfl, h1, b0, by omega, by omega, by omega⟩
end Ft
namespace Ft
open PySem PySem.Spec L2
def wellB (a0 a1 : Int) (n : Int) (m1 o1 p1 m2 o2 p2 md : Int) (pw : Int) (tl : Exs) : Bk :=
  (.cons (.asg (.v 2) (.op2 dAdd (.c (.int a0)) (.op2 dMul' (.c (.int a1)) (.var 1))))
  (.cons (.fors (.v 3) (.seq (.sliceR (.var 0) (.c (.int n))))
  (.cons (.asg (.v 2) (.op2 dMod (.opn cInt (.cons (.op2 dAdd (.op2 dAdd (.op2 dMul' (.var 2) (.c (.int m1))) (.op2 dMod (.opn cInt (.cons (.var 3) .nil)) (.c (.int o1)))) (.c (.int p1))) .nil)) (.c (.int md))))
  .nil))
  (.cons (.asg (.v 4) (.ite (.e (.op2 dLt (.var 1) (.len (.var 0)))) (.opn cInt (.cons (.sub (.var 0) (.var 1)) .nil)) (.c (.int 0))))
  (.cons (.asg (.v 2) (.op2 dMod (.opn cInt (.cons (.op2 dAdd (.op2 dAdd (.op2 dMul' (.var 2) (.c (.int m2))) (.op2 dMul' (.op2 dMod (.opn cInt (.cons (.var 4) .nil)) (.c (.int o1))) (.c (.int o2)))) (.c (.int p2))) .nil)) (.c (.int md))))
  (.cons (.ret (.nlst (.cons (.ite (.or (.e (.op2 dLt (.var 4) (.c (.int 0)))) (.e (.op2 dGe (.var 4) (.op2 dPow (.c (.int 10)) (.c (.int pw)))))) (.opn cAbs (.cons (.var 4) .nil)) (.c (.int 0))) (.cons (.var 2) (.cons (.c (.int 0)) tl)))))
  .nil)))))
theorem atI_some {α : Type} {xs : List α} {i : Nat} (h : i < xs.length) : atI xs (i : Int) = some xs[i] := by
  unfold atI ixN
  rw [if_pos (by omega), if_pos (by omega)]
  show xs[(i : Int).toNat]? = _
  rw [Int.toNat_natCast, List.getElem?_eq_getElem h]
theorem cut_ints {xs : List Int} {l h : Option Int} : cut (xs.map PyData.int) l h = ((xs.drop (HT.sIx xs.length 0 l)).take (HT.sIx xs.length xs.length h - HT.sIx xs.length 0 l)).map PyData.int := by
  unfold cut
  rw [List.length_map, ← List.map_drop, ← List.map_take]
theorem well_run {a0 a1 n m1 o1 p1 m2 o2 p2 md pw : Int} {tl : Exs} {F : Fs} {ns : List Int} {i : Nat} (k0 : 0 ≤ a0 ∧ a0 < 2 ^ 40) (k1 : 0 ≤ a1 ∧ a1 < 2 ^ 40) (k2 : 0 ≤ m1 ∧ m1 < 2 ^ 40) (k3 : 0 < o1 ∧ o1 < 2 ^ 40) (k4 : 0 ≤ p1 ∧ p1 < 2 ^ 40) (k5 : 0 ≤ m2 ∧ m2 < 2 ^ 40) (k6 : 0 ≤ o2 ∧ o2 < 2 ^ 40) (k7 : 0 < md ∧ md < 2 ^ 40)
    (k8 : 0 ≤ pw ∧ pw ≤ 1000) (hi : i < 1000) {ws : List D} (ht : ∀ τ S, evs F τ S tl = .ok (ws.map W.d) S) (hd : datas (ws.map W.d) = some ws) (hl : ws.length < 100) :
    Ok (exs F [some (.d (.list (ns.map .int))), some (.d (.int i)), none, none, none] [] (wellB a0 a1 n m1 o1 p1 m2 o2 p2 md pw tl)) fun f S1 => ∃ w, f = .ret (.ref 0) ∧ S1 = [w] ∧ Wl 0 w := by
  have e1 : mulOk a1 i = true := mul_ok (a := 40) (b := 10) (by omega) (by omega) (by omega)
  have g0 : 0 ≤ a1 * (i : Int) := Int.mul_nonneg k1.1 (by omega)
  have g1 : a1 * (i : Int) ≤ 2 ^ 40 * 1000 := Int.mul_le_mul (by omega) (by omega) (by omega) (by omega)
  unfold wellB
  apply ok_cons
  simp only [exe, exs_nil, Ok_exs_nil, evT, evI, ev, evs, put, putW, List.getElem?_cons_zero, List.getElem?_cons_succ, List.set_cons_zero, List.set_cons_succ, Res.bind_ok, Res.up_ok, Res.dry, asData, datas, part, opt_some, Option.map_some, Ok_ok, wTruth, dTruth, dSub, dSlice, W.data, if_true, decide_true, decide_false, Bool.false_eq_true, if_false, List.length_cons, List.length_nil, Nat.reduceAdd, Nat.reduceLeDiff, Nat.zero_add, sizeLine16, dEq, dNe, dAdd, dSub', dMul', dDiv, dMod, dShr, dAnd, dOr, dXor, dNeg, dLt, dLe, dGt, dGe, dIs, dIsNot, cAbs, cMax, cMin, cInt, cDivmod, cTuple, cList, e1]
  apply ok_cons
  simp only [exe, exs_nil, Ok_exs_nil, evT, evI, ev, evs, put, putW, List.getElem?_cons_zero, List.getElem?_cons_succ, List.set_cons_zero, List.set_cons_succ, Res.bind_ok, Res.up_ok, Res.dry, asData, datas, part, opt_some, Option.map_some, Ok_ok, wTruth, dTruth, dSub, dSlice, W.data, if_true, decide_true, decide_false, Bool.false_eq_true, if_false, List.length_cons, List.length_nil, Nat.reduceAdd, Nat.reduceLeDiff, Nat.zero_add, sizeLine16, dEq, dNe, dAdd, dSub', dMul', dDiv, dMod, dShr, dAnd, dOr, dXor, dNeg, dLt, dLe, dGt, dGe, dIs, dIsNot, cAbs, cMax, cMin, cInt, cDivmod, cTuple, cList, dItems]
  rw [cut_ints]
  generalize hx : ((ns.drop (HT.sIx ns.length 0 none)).take (HT.sIx ns.length ns.length (some n) - HT.sIx ns.length 0 none)) = xs
  refine ok_for (fun r τ S => ∃ (m : Int) (o : Option W) (ys : List Int), r = ys.map PyData.int ∧ S = [] ∧ 0 ≤ m ∧ m < 2 ^ 60 ∧ τ = [some (.d (.list (ns.map .int))), some (.d (.int i)), some (.d (.int m)), o, none]) ?hd ?hs _ _ _ ⟨a0 + a1 * (i : Int), none, xs, rfl, rfl, by omega, by omega, rfl⟩
  case hd =>
    rintro τ S ⟨m, o, ys, _, rfl, hm, hm2, rfl⟩
    dsimp only
    apply ok_cons
    have own : ∃ own : Int, ev F [some (.d (.list (ns.map .int))), some (.d (.int i)), some (.d (.int m)), o, none] [] (.ite (.e (.op2 dLt (.var 1) (.len (.var 0)))) (.opn cInt (.cons (.sub (.var 0) (.var 1)) .nil)) (.c (.int 0))) = .ok (.d (.int own)) [] := by
      by_cases h : (i : Int) < ((ns.map PyData.int).length : Int)
      · have hi' : i < (ns.map PyData.int).length := by omega
        refine ⟨ns[i]'(by simpa using hi'), ?_⟩
        simp only [exe, exs_nil, Ok_exs_nil, evT, evI, ev, evs, put, putW, List.getElem?_cons_zero, List.getElem?_cons_succ, List.set_cons_zero, List.set_cons_succ, Res.bind_ok, Res.up_ok, Res.dry, asData, datas, part, opt_some, Option.map_some, Ok_ok, wTruth, dTruth, dSub, dSlice, W.data, if_true, decide_true, decide_false, Bool.false_eq_true, if_false, List.length_cons, List.length_nil, Nat.reduceAdd, Nat.reduceLeDiff, Nat.zero_add, sizeLine16, dEq, dNe, dAdd, dSub', dMul', dDiv, dMod, dShr, dAnd, dOr, dXor, dNeg, dLt, dLe, dGt, dGe, dIs, dIsNot, cAbs, cMax, cMin, cInt, cDivmod, cTuple, cList, h, atI_some hi', List.getElem_map]
      · refine ⟨0, ?_⟩
        simp only [exe, exs_nil, Ok_exs_nil, evT, evI, ev, evs, put, putW, List.getElem?_cons_zero, List.getElem?_cons_succ, List.set_cons_zero, List.set_cons_succ, Res.bind_ok, Res.up_ok, Res.dry, asData, datas, part, opt_some, Option.map_some, Ok_ok, wTruth, dTruth, dSub, dSlice, W.data, if_true, decide_true, decide_false, Bool.false_eq_true, if_false, List.length_cons, List.length_nil, Nat.reduceAdd, Nat.reduceLeDiff, Nat.zero_add, sizeLine16, dEq, dNe, dAdd, dSub', dMul', dDiv, dMod, dShr, dAnd, dOr, dXor, dNeg, dLt, dLe, dGt, dGe, dIs, dIsNot, cAbs, cMax, cMin, cInt, cDivmod, cTuple, cList, h]
    obtain ⟨own, eo⟩ := own
    simp only [exe]
    rw [eo]
    simp only [exe, exs_nil, Ok_exs_nil, evT, evI, ev, evs, put, putW, List.getElem?_cons_zero, List.getElem?_cons_succ, List.set_cons_zero, List.set_cons_succ, Res.bind_ok, Res.up_ok, Res.dry, asData, datas, part, opt_some, Option.map_some, Ok_ok, wTruth, dTruth, dSub, dSlice, W.data, if_true, decide_true, decide_false, Bool.false_eq_true, if_false, List.length_cons, List.length_nil, Nat.reduceAdd, Nat.reduceLeDiff, Nat.zero_add, sizeLine16, dEq, dNe, dAdd, dSub', dMul', dDiv, dMod, dShr, dAnd, dOr, dXor, dNeg, dLt, dLe, dGt, dGe, dIs, dIsNot, cAbs, cMax, cMin, cInt, cDivmod, cTuple, cList]
    apply ok_cons
    have r0 : 0 ≤ own % o1 := Int.emod_nonneg _ (by omega)
    have r1 : own % o1 < o1 := Int.emod_lt_of_pos _ k3.1
    have e2 : mulOk m m2 = true := mul_ok (a := 60) (b := 40) (by omega) (by omega) (by omega)
    have e3 : mulOk (own % o1) o2 = true := mul_ok (a := 40) (b := 40) (by omega) (by omega) (by omega)
    simp only [exe, exs_nil, Ok_exs_nil, evT, evI, ev, evs, put, putW, List.getElem?_cons_zero, List.getElem?_cons_succ, List.set_cons_zero, List.set_cons_succ, Res.bind_ok, Res.up_ok, Res.dry, asData, datas, part, opt_some, Option.map_some, Ok_ok, wTruth, dTruth, dSub, dSlice, W.data, if_true, decide_true, decide_false, Bool.false_eq_true, if_false, List.length_cons, List.length_nil, Nat.reduceAdd, Nat.reduceLeDiff, Nat.zero_add, sizeLine16, dEq, dNe, dAdd, dSub', dMul', dDiv, dMod, dShr, dAnd, dOr, dXor, dNeg, dLt, dLe, dGt, dGe, dIs, dIsNot, cAbs, cMax, cMin, cInt, cDivmod, cTuple, cList, e2, e3, k3.1, k7.1]
    generalize hb : (m * m2 + own % o1 * o2 + p2) % md = b
    have b0 : 0 ≤ b := by rw [← hb]; exact Int.emod_nonneg _ (by omega)
    have b1 : b < md := by rw [← hb]; exact Int.emod_lt_of_pos _ k7.1
    have ten : dPow (.int 10) (.int pw) = some (.int (10 ^ pw.toNat)) := by
      unfold dPow
      exact if_pos ⟨k8.1, by omega, by decide⟩
    have first : ∃ a : Int, 0 ≤ a ∧ ∀ S, ev F [some (.d (.list (ns.map .int))), some (.d (.int i)), some (.d (.int b)), o, some (.d (.int own))] S (.ite (.or (.e (.op2 dLt (.var 4) (.c (.int 0)))) (.e (.op2 dGe (.var 4) (.op2 dPow (.c (.int 10)) (.c (.int pw)))))) (.opn cAbs (.cons (.var 4) .nil)) (.c (.int 0))) = .ok (.d (.int a)) S := by
      by_cases h : own < 0
      · exact ⟨(own.natAbs : Int), by omega, fun S => by simp only [exe, exs_nil, Ok_exs_nil, evT, evI, ev, evs, put, putW, List.getElem?_cons_zero, List.getElem?_cons_succ, List.set_cons_zero, List.set_cons_succ, Res.bind_ok, Res.up_ok, Res.dry, asData, datas, part, opt_some, Option.map_some, Ok_ok, wTruth, dTruth, dSub, dSlice, W.data, if_true, decide_true, decide_false, Bool.false_eq_true, if_false, List.length_cons, List.length_nil, Nat.reduceAdd, Nat.reduceLeDiff, Nat.zero_add, sizeLine16, dEq, dNe, dAdd, dSub', dMul', dDiv, dMod, dShr, dAnd, dOr, dXor, dNeg, dLt, dLe, dGt, dGe, dIs, dIsNot, cAbs, cMax, cMin, cInt, cDivmod, cTuple, cList, h]⟩
      · by_cases h' : (10 : Int) ^ pw.toNat ≤ own
        · exact ⟨(own.natAbs : Int), by omega, fun S => by simp only [exe, exs_nil, Ok_exs_nil, evT, evI, ev, evs, put, putW, List.getElem?_cons_zero, List.getElem?_cons_succ, List.set_cons_zero, List.set_cons_succ, Res.bind_ok, Res.up_ok, Res.dry, asData, datas, part, opt_some, Option.map_some, Ok_ok, wTruth, dTruth, dSub, dSlice, W.data, if_true, decide_true, decide_false, Bool.false_eq_true, if_false, List.length_cons, List.length_nil, Nat.reduceAdd, Nat.reduceLeDiff, Nat.zero_add, sizeLine16, dEq, dNe, dAdd, dSub', dMul', dDiv, dMod, dShr, dAnd, dOr, dXor, dNeg, dLt, dLe, dGt, dGe, dIs, dIsNot, cAbs, cMax, cMin, cInt, cDivmod, cTuple, cList, h, h', ten]⟩
        · exact ⟨0, by omega, fun S => by simp only [exe, exs_nil, Ok_exs_nil, evT, evI, ev, evs, put, putW, List.getElem?_cons_zero, List.getElem?_cons_succ, List.set_cons_zero, List.set_cons_succ, Res.bind_ok, Res.up_ok, Res.dry, asData, datas, part, opt_some, Option.map_some, Ok_ok, wTruth, dTruth, dSub, dSlice, W.data, if_true, decide_true, decide_false, Bool.false_eq_true, if_false, List.length_cons, List.length_nil, Nat.reduceAdd, Nat.reduceLeDiff, Nat.zero_add, sizeLine16, dEq, dNe, dAdd, dSub', dMul', dDiv, dMod, dShr, dAnd, dOr, dXor, dNeg, dLt, dLe, dGt, dGe, dIs, dIsNot, cAbs, cMax, cMin, cInt, cDivmod, cTuple, cList, h, h', ten]⟩
    obtain ⟨a, ha, ea⟩ := first
    apply ok_cons
    simp only [exe, ev_nlst, evs_cons]
    rw [ea]
    simp only [exe, exs_nil, Ok_exs_nil, evT, evI, ev, evs, put, putW, List.getElem?_cons_zero, List.getElem?_cons_succ, List.set_cons_zero, List.set_cons_succ, Res.bind_ok, Res.up_ok, Res.dry, asData, datas, part, opt_some, Option.map_some, Ok_ok, wTruth, dTruth, dSub, dSlice, W.data, if_true, decide_true, decide_false, Bool.false_eq_true, if_false, List.length_cons, List.length_nil, Nat.reduceAdd, Nat.reduceLeDiff, Nat.zero_add, sizeLine16, dEq, dNe, dAdd, dSub', dMul', dDiv, dMod, dShr, dAnd, dOr, dXor, dNeg, dLt, dLe, dGt, dGe, dIs, dIsNot, cAbs, cMax, cMin, cInt, cDivmod, cTuple, cList, ht, hd]
    rw [if_pos (by omega)]
    simp only [Res.bind_ok, Res.up_ok, Ok_ok]
    exact ⟨_, by first | rfl | trivial, by first | rfl | trivial, a, b, 0, ws, rfl, ha, b0, by omega, by omega, by omega⟩
  case hs =>
    rintro x r τ S ⟨m, o, ys, hr, rfl, hm, hm2, rfl⟩
    cases ys with
    | nil => cases hr
    | cons y ys =>
      simp only [List.map_cons, List.cons.injEq] at hr
      obtain ⟨rfl, rfl⟩ := hr
      have r0 : 0 ≤ y % o1 := Int.emod_nonneg _ (by omega)
      have r1 : y % o1 < o1 := Int.emod_lt_of_pos _ k3.1
      have e2 : mulOk m m1 = true := mul_ok (a := 60) (b := 40) (by omega) (by omega) (by omega)
      simp only [exe, exs_nil, Ok_exs_nil, evT, evI, ev, evs, put, putW, List.getElem?_cons_zero, List.getElem?_cons_succ, List.set_cons_zero, List.set_cons_succ, Res.bind_ok, Res.up_ok, Res.dry, asData, datas, part, opt_some, Option.map_some, Ok_ok, wTruth, dTruth, dSub, dSlice, W.data, if_true, decide_true, decide_false, Bool.false_eq_true, if_false, List.length_cons, List.length_nil, Nat.reduceAdd, Nat.reduceLeDiff, Nat.zero_add, sizeLine16, dEq, dNe, dAdd, dSub', dMul', dDiv, dMod, dShr, dAnd, dOr, dXor, dNeg, dLt, dLe, dGt, dGe, dIs, dIsNot, cAbs, cMax, cMin, cInt, cDivmod, cTuple, cList]
      apply ok_cons
      simp only [exe, exs_nil, Ok_exs_nil, evT, evI, ev, evs, put, putW, List.getElem?_cons_zero, List.getElem?_cons_succ, List.set_cons_zero, List.set_cons_succ, Res.bind_ok, Res.up_ok, Res.dry, asData, datas, part, opt_some, Option.map_some, Ok_ok, wTruth, dTruth, dSub, dSlice, W.data, if_true, decide_true, decide_false, Bool.false_eq_true, if_false, List.length_cons, List.length_nil, Nat.reduceAdd, Nat.reduceLeDiff, Nat.zero_add, sizeLine16, dEq, dNe, dAdd, dSub', dMul', dDiv, dMod, dShr, dAnd, dOr, dXor, dNeg, dLt, dLe, dGt, dGe, dIs, dIsNot, cAbs, cMax, cMin, cInt, cDivmod, cTuple, cList, e2, k3.1, k7.1]
      exact ⟨_, _, ys, by first | rfl | trivial, by first | rfl | trivial, Int.emod_nonneg _ (by omega), by have := Int.emod_lt_of_pos (m * m1 + y % o1 + p1) k7.1; omega, rfl⟩
end Ft
namespace Ft
open PySem PySem.Spec L2
def SWo (t : Nat) (a b : Ob) : Prop := match a with
  | .tok => Wl (t : Int) b
  | a => b = a
def SW (t : Nat) : Sto → Sto → Prop
  | [], [] => True
  | a :: as, b :: bs => SWo t a b ∧ SW t as bs
  | _, _ => False
theorem SWo.mono {t u : Nat} {a b : Ob} (h : SWo t a b) (q : t ≤ u) : SWo u a b := by
  cases a with
  | tok => exact Wl.mono h (by omega)
  | _ => exact h
theorem SWo.shut {t : Nat} {a b : Ob} (h : SWo t a b) : b.shut = a.shut := by
  cases a with
  | tok => exact Wl.shut h
  | _ => cases h; rfl
theorem SW.mono {t u : Nat} (q : t ≤ u) : ∀ {S S' : Sto}, SW t S S' → SW u S S'
  | [], [], _ => trivial
  | _ :: _, _ :: _, h => ⟨h.1.mono q, SW.mono q h.2⟩
  | [], _ :: _, h => h.elim
  | _ :: _, [], h => h.elim
theorem SW.len {t : Nat} : ∀ {S S' : Sto}, SW t S S' → S'.length = S.length
  | [], [], _ => rfl
  | _ :: _, _ :: _, h => by simp [SW.len h.2]
  | [], _ :: _, h => h.elim
  | _ :: _, [], h => h.elim
theorem SW.get {t : Nat} : ∀ {S S' : Sto} {n : Nat} {a : Ob}, SW t S S' → S[n]? = some a → ∃ b, S'[n]? = some b ∧ SWo t a b
  | a :: as, b :: bs, 0, c, h, e => by
    simp at e
    subst e
    exact ⟨b, rfl, h.1⟩
  | a :: as, b :: bs, n + 1, c, h, e => by
    obtain ⟨d, e1, e2⟩ := SW.get (n := n) h.2 (by simpa using e)
    exact ⟨d, by simpa using e1, e2⟩
  | [], _, _, _, _, e => by simp at e
  | _ :: _, [], _, _, h, _ => h.elim
theorem SW.dl {t : Nat} {S S' : Sto} {n : Nat} {xs : List D} (h : SW t S S') (e : S[n]? = some (.dl xs)) : S'[n]? = some (.dl xs) := by
  obtain ⟨b, e1, e2⟩ := h.get e
  cases e2
  exact e1
theorem SW.fz {t : Nat} {S S' : Sto} {n : Nat} {xs : List D} (h : SW t S S') (e : S[n]? = some (.fz xs)) : S'[n]? = some (.fz xs) := by
  obtain ⟨b, e1, e2⟩ := h.get e
  cases e2
  exact e1
theorem SW.dd {t : Nat} {S S' : Sto} {n : Nat} {xs : List (L2.Key × D)} (h : SW t S S') (e : S[n]? = some (.dd xs)) : S'[n]? = some (.dd xs) := by
  obtain ⟨b, e1, e2⟩ := h.get e
  cases e2
  exact e1
theorem SW.rl {t : Nat} {S S' : Sto} {n : Nat} {xs : List W} (h : SW t S S') (e : S[n]? = some (.rl xs)) : S'[n]? = some (.rl xs) := by
  obtain ⟨b, e1, e2⟩ := h.get e
  cases e2
  exact e1
theorem SW.rt {t : Nat} {S S' : Sto} {n : Nat} {xs : List W} (h : SW t S S') (e : S[n]? = some (.rt xs)) : S'[n]? = some (.rt xs) := by
  obtain ⟨b, e1, e2⟩ := h.get e
  cases e2
  exact e1
theorem SW.mp {t : Nat} {S S' : Sto} {n : Nat} {xs : List (NestedKey × W)} (h : SW t S S') (e : S[n]? = some (.mp xs)) : S'[n]? = some (.mp xs) := by
  obtain ⟨b, e1, e2⟩ := h.get e
  cases e2
  exact e1
theorem SW.hasD {t : Nat} {S S' : Sto} {w u : W} {c : Bool} (h : SW t S S') (e : Ft.hasD S w u = some c) : Ft.hasD S' w u = some c := by
  unfold Ft.hasD at e ⊢
  split at e
  · rename_i x n
    try dsimp only
    split at e
    · rename_i xs q1
      rw [h.dd q1]; exact e
    · rename_i xs q1
      rw [h.mp q1]; exact e
    · cases e
  · cases e
theorem SW.set {t : Nat} {a b : Ob} (q : SWo t a b) : ∀ {S S' : Sto} {n : Nat}, SW t S S' → SW t (S.set n a) (S'.set n b)
  | _ :: _, _ :: _, 0, h => ⟨q, h.2⟩
  | _ :: _, _ :: _, n + 1, h => ⟨h.1, SW.set q (n := n) h.2⟩
  | [], [], _, h => h
  | [], _ :: _, _, h => h.elim
  | _ :: _, [], _, h => h.elim
theorem SW.snoc {t : Nat} {a b : Ob} (q : SWo t a b) : ∀ {S S' : Sto}, SW t S S' → SW t (S ++ [a]) (S' ++ [b])
  | _ :: _, _ :: _, h => ⟨h.1, SW.snoc q h.2⟩
  | [], [], h => ⟨q, trivial⟩
  | [], _ :: _, h => h.elim
  | _ :: _, [], h => h.elim
theorem SW.asData {t : Nat} {S S' : Sto} {w : W} {x : D} (h : SW t S S') (e : Ft.asData S w = some x) : Ft.asData S' w = some x := by
  cases w with
  | d y => exact e
  | ref n =>
    unfold Ft.asData at e ⊢
    dsimp only at e ⊢
    split at e
    · rename_i xs q
      rw [h.dl q]; exact e
    · rename_i xs q
      rw [h.fz q]; exact e
    · cases e
theorem SW.truth {t : Nat} {S S' : Sto} {w : W} {b : Bool} (h : SW t S S') (e : wTruth w S = some b) : wTruth w S' = some b := by
  cases w with
  | d y => exact e
  | ref n =>
    unfold wTruth at e ⊢
    dsimp only at e ⊢
    split at e
    · rename_i xs q
      rw [h.dl q]; exact e
    · rename_i xs q
      rw [h.fz q]; exact e
    · cases e
theorem SW.getShut {t : Nat} {S S' : Sto} (h : SW t S S') : ∀ {ns : List Nat} {obs : Sto}, Ft.getShut S ns = some obs → ∃ obs', Ft.getShut S' ns = some obs' ∧ SW t obs obs'
  | [], obs, e => by cases e; exact ⟨[], rfl, trivial⟩
  | n :: r, obs, e => by
    unfold Ft.getShut at e ⊢
    split at e
    · rename_i ob q
      obtain ⟨b, q1, q2⟩ := h.get q
      split at e
      · rename_i hs
        split at e
        · rename_i obs1 q3
          cases e
          obtain ⟨obs', q4, q5⟩ := SW.getShut h q3
          refine ⟨b :: obs', ?_, q2, q5⟩
          rw [q1]
          dsimp only
          rw [if_pos (by rw [q2.shut]; exact hs), q4]
        · cases e
      · cases e
    · cases e
theorem SW.putShut {t : Nat} : ∀ {ns : List Nat} {S S' Z Z' S2 : Sto}, SW t S S' → SW t Z Z' → Ft.putShut S ns Z = some S2 → ∃ S2', Ft.putShut S' ns Z' = some S2' ∧ SW t S2 S2'
  | [], S, S', Z, Z', S2, h, g, e => by
    unfold Ft.putShut at e
    cases e
    exact ⟨S', by unfold Ft.putShut; rfl, h⟩
  | n :: r, S, S', [], _, S2, h, g, e => by cases e
  | n :: r, S, S', a :: as, b :: bs, S2, h, g, e => by
    unfold Ft.putShut at e ⊢
    split at e
    · rename_i hs
      rw [if_pos (by rw [g.1.shut]; exact hs)]
      exact SW.putShut (h.set g.1) g.2 e
    · cases e
  | n :: r, S, S', _ :: _, [], S2, h, g, e => g.elim
/-- what is wanted of a run -/
def Sd {α : Type} (t : Nat) (r : Res α) (P : α → Sto → Prop) (X : Xv) : Prop := match r with
  | .ok a S' => ∃ S, SW t S S' ∧ P a S
  | .exc e S' => ∃ S, SW t S S' ∧ X e S
  | .no => False
theorem Sd.bind {α β : Type} {t1 t2 : Nat} {r : Res α} {f : α → Sto → Res β} {P : α → Sto → Prop} {Q : β → Sto → Prop} {X : Xv} (h : Sd t1 r P X) (ht : t1 ≤ t2) (g : ∀ a S S', SW t1 S S' → P a S → Sd t2 (f a S') Q X) : Sd t2 (r.bind f) Q X := by
  cases r with
  | ok a S' => obtain ⟨S, s, p⟩ := h; exact g a S S' s p
  | exc e S' => obtain ⟨S, s, p⟩ := h; exact ⟨S, s.mono ht, p⟩
  | no => exact h.elim
theorem Sd.up {α : Type} {t1 t2 : Nat} {τ : Lo} {r : Res α} {f : α → Sto → Res Fl} {P : α → Sto → Prop} {R : Rv} {X : Xv} (h : Sd t1 r P fun e S => R (.rs τ e) S) (ht : t1 ≤ t2) (g : ∀ a S S', SW t1 S S' → P a S → Sd t2 (f a S') R X) : Sd t2 (r.up τ f) R X := by
  cases r with
  | ok a S' => obtain ⟨S, s, p⟩ := h; exact g a S S' s p
  | exc e S' => obtain ⟨S, s, p⟩ := h; exact ⟨S, s.mono ht, p⟩
  | no => exact h.elim
theorem Sd.dry {α : Type} {t : Nat} {r : Res α} {P : α → Sto → Prop} {X : Xv} (h : Sd t r P noX) : Sd t r.dry P X := by
  cases r with
  | ok a S' => exact h
  | exc e S' => obtain ⟨S, s, p⟩ := h; exact p.elim
  | no => exact h.elim
theorem Sd.imp {α : Type} {t : Nat} {r : Res α} {P P' : α → Sto → Prop} {X : Xv} (h : Sd t r P X) (g : ∀ a S, P a S → P' a S) : Sd t r P' X := by
  cases r with
  | no => exact h
  | exc e S => exact h
  | ok a S => obtain ⟨S1, s1, p⟩ := h; exact ⟨S1, s1, g _ _ p⟩
theorem Sd.mono {α : Type} {t1 t2 : Nat} {r : Res α} {P : α → Sto → Prop} {X : Xv} (h : Sd t1 r P X) (ht : t1 ≤ t2) : Sd t2 r P X := by
  cases r with
  | ok a S' => obtain ⟨S, s, p⟩ := h; exact ⟨S, s.mono ht, p⟩
  | exc e S' => obtain ⟨S, s, p⟩ := h; exact ⟨S, s.mono ht, p⟩
  | no => exact h.elim
theorem Sd.opt {α : Type} {t : Nat} {o : Option α} {S S' : Sto} {P : α → Sto → Prop} {X : Xv} (s : SW t S S') (h : oP o fun a => P a S) : Sd t (Ft.opt o S') P X := by
  cases o with
  | none => exact h.elim
  | some a => exact ⟨S, s, h⟩
theorem oP_get {α : Type} {o : Option α} {f : α → Prop} (h : oP o f) : ∃ a, o = some a ∧ f a := by
  cases o with
  | none => exact h.elim
  | some a => exact ⟨a, rfl, h⟩
theorem dP_get {w : W} {f : D → Prop} (h : dP w f) : ∃ x, w = .d x ∧ f x := by
  cases w with
  | ref n => exact h.elim
  | d x => exact ⟨x, rfl, h⟩
theorem dlP_get {S : Sto} {n : Nat} {f : List D → Prop} (h : dlP S n f) : ∃ xs, S[n]? = some (.dl xs) ∧ f xs := by
  unfold dlP at h
  split at h
  · exact ⟨_, by assumption, h⟩
  · exact h.elim
theorem obP_get {S : Sto} {n : Nat} {f : Ob → Prop} (h : obP S n f) : ∃ o, S[n]? = some o ∧ f o := oP_get h
theorem mpP_get {S : Sto} {w : W} {f : Nat → List (NestedKey × W) → Prop} (h : mpP S w f) : ∃ n kvs, w = .ref n ∧ S[n]? = some (.mp kvs) ∧ f n kvs := by
  unfold mpP at h
  split at h
  · rename_i n
    obtain ⟨o, e, h⟩ := obP_get h
    unfold mpO at h
    split at h
    · exact ⟨n, _, rfl, e, h⟩
    · exact h.elim
  · exact h.elim
theorem SW.isMp {t : Nat} {S S' : Sto} {n : Nat} {kvs : List (NestedKey × W)} (h : SW t S S') (e : S[n]? = some (.mp kvs)) : Ft.isMp S' (.ref n) = true := by
  unfold Ft.isMp
  dsimp only
  rw [h.mp e]
theorem SW.mpAt {t : Nat} {S S' : Sto} {n : Nat} {kvs : List (NestedKey × W)} {y : D} {k : NestedKey} (h : SW t S S') (e : S[n]? = some (.mp kvs)) (ek : keyM y = some k) (ok : okM kvs k = true) : Ft.mpAt S' (.ref n) (.d y) = some (n, kvs, k) := by
  unfold Ft.mpAt
  dsimp only
  rw [h.mp e]
  dsimp only
  rw [ek]
  show (if okM kvs k = true then some (n, kvs, k) else none) = _
  rw [if_pos ok]
theorem SW.subW {t : Nat} {S S' : Sto} {w u : W} {f : W → Prop} (h : SW t S S') (e : subP S w u f) : ∃ z, Ft.subW S' w u = some z ∧ f z := by
  unfold subP at e
  split at e
  · obtain ⟨y, rfl, e⟩ := dP_get e
    obtain ⟨z, e1, e⟩ := oP_get e
    unfold Ft.subW
    dsimp only
    rw [e1]
    exact ⟨_, rfl, e⟩
  · rename_i n
    obtain ⟨o, eo, e⟩ := obP_get e
    obtain ⟨y, rfl, e⟩ := dP_get e
    unfold Ft.subW
    dsimp only
    cases o with
    | dl xs =>
      obtain ⟨z, e1, e⟩ := oP_get (show oP (dSub (.list xs) y) fun z => f (.d z) from e)
      rw [h.dl eo]
      dsimp only
      rw [e1]
      exact ⟨_, rfl, e⟩
    | fz xs =>
      obtain ⟨z, e1, e⟩ := oP_get (show oP (dSub (.list xs) y) fun z => f (.d z) from e)
      rw [h.fz eo]
      dsimp only
      rw [e1]
      exact ⟨_, rfl, e⟩
    | rl ws =>
      rw [h.rl eo]
      cases y with
      | int i =>
        obtain ⟨z, e1, e⟩ := oP_get (show oP (L2.atI ws i) f from e)
        exact ⟨z, e1, e⟩
      | _ => exact False.elim e
    | mp kvs =>
      rw [h.mp eo]
      obtain ⟨k, e1, ok, e⟩ := oP_get (show oP (keyM y) fun k => okM kvs k = true ∧ oP (atM kvs k) f from e)
      obtain ⟨z, e2, e⟩ := oP_get e
      refine ⟨z, ?_, e⟩
      dsimp only
      rw [e1]
      show (if okM kvs k = true then atM kvs k else none) = _
      rw [if_pos ok, e2]
    | _ => exact False.elim e
theorem strP_get {w : W} {f : Str → Prop} (h : strP w f) : ∃ x, w = .d (.str x) ∧ f x := by
  unfold strP at h
  split at h
  · exact ⟨_, rfl, h⟩
  · exact h.elim
theorem intP_get {w : W} {f : Int → Prop} (h : intP w f) : ∃ x, w = .d (.int x) ∧ f x := by
  unfold intP at h
  split at h
  · exact ⟨_, rfl, h⟩
  · exact h.elim
theorem dP_get2 {w u : W} {f : D → D → Prop} (h : dP w fun x => dP u (f x)) : ∃ x y, w = .d x ∧ u = .d y ∧ f x y := by
  obtain ⟨x, rfl, h1⟩ := dP_get h
  obtain ⟨y, rfl, h2⟩ := dP_get h1
  exact ⟨x, y, rfl, rfl, h2⟩
theorem intP_get2 {w u : W} {f : Int → Int → Prop} (h : intP w fun x => intP u (f x)) : ∃ x y, w = .d (.int x) ∧ u = .d (.int y) ∧ f x y := by
  obtain ⟨x, rfl, h1⟩ := intP_get h
  obtain ⟨y, rfl, h2⟩ := intP_get h1
  exact ⟨x, y, rfl, rfl, h2⟩
theorem intP_get3 {w u v : W} {f : Int → Int → Int → Prop} (h : intP w fun x => intP u fun y => intP v (f x y)) : ∃ x y z, w = .d (.int x) ∧ u = .d (.int y) ∧ v = .d (.int z) ∧ f x y z := by
  obtain ⟨x, y, rfl, rfl, h1⟩ := intP_get2 h
  obtain ⟨z, rfl, h2⟩ := intP_get h1
  exact ⟨x, y, z, rfl, rfl, rfl, h2⟩
section
variable (κ : Nat)
mutual
def nE : Ex → Nat
  | .var _ => 0
  | .c _ => 0
  | .op1 _ a => nE a
  | .op2 _ a b => nE a + nE b
  | .opn _ es => nEs es
  | .ite t a b => nT t + nE a + nE b
  | .and a b => nE a + nE b
  | .or a b => nE a + nE b
  | .not a => nE a
  | .chain _ _ a b c => nE a + nE b + nE c
  | .tup es => nEs es
  | .lst es => nEs es
  | .nlst es => nEs es
  | .sub a i => nE a + nE i
  | .slice a b c => nE a + nE b + nE c
  | .sliceL a b => nE a + nE b
  | .sliceR a b => nE a + nE b
  | .sliceN a => nE a
  | .call _ es => nEs es + κ
  | .callk _ es ks _ => nEs es + nEs ks + κ
  | .comp _ e tg it t => nI it + sizeLine * (nG tg + nT t + nE e)
  | .compN _ e tg it t => nI it + sizeLine * (nG tg + nT t + nE e)
  | .dcomp _ kx vx tg it t => nI it + sizeLine * (nG tg + nT t + (nE kx + nE vx))
  | .inD a b => nE a + nE b
  | .dnew => 0
  | .dz => 0
  | .nbin _ a b => nE a + nE b
  | .cmpR _ a b => nE a + nE b
  | .rtup es => nEs es
  | .rlst es => nEs es
  | .subR a i => nE a + nE i
  | .dget a k x => nE a + nE k + nE x
  | .dset a k x => nE a + nE k + nE x
  | .dkeys a => nE a
  | .dsort a => nE a
  | .demp _ a => nE a
  | .comp2 _ _ e tg it tg1 it1 t1 => nI it + sizeLine * (nG tg + nI it1 + sizeLine * (nG tg1 + nT t1 + nE e))
  | .mstr _ o es => nE o + nEs es
  | .mlst _ _ o es => nE o + nEs es
  | .len a => nE a
  | .frz a => nE a
  | .bad => 0
def nEs : Exs → Nat
  | .nil => 0
  | .cons e r => nE e + nEs r
  | .star e r => nE e + nEs r
def nT : Te → Nat
  | .tt => 0
  | .e x => nE x
  | .and a b => nT a + nT b
  | .or a b => nT a + nT b
  | .not a => nT a
  | .ite c a b => nT c + nT a + nT b
def nI : Ie → Nat
  | .seq e => nE e
  | .rng a b => nE a + nE b
  | .rng3 a b c => nE a + nE b + nE c
  | .enum e => nE e
  | .zip a b => nE a + nE b
def nG : Tg → Nat
  | .v _ => 0
  | .e => 0
  | .t l r => nG l + nG r
  | .s o i => nE o + nE i
  | .u _ _ => 0
  | .us _ => 0
end
mutual
def nS : Sm → Nat
  | .ex e => nE κ e
  | .asg t e => nE κ e + nG κ t
  | .par _ _ a b => nE κ a + nE κ b
  | .par3 _ _ _ a b c => nE κ a + nE κ b + nE κ c
  | .aug _ _ e => nE κ e
  | .ret e => nE κ e
  | .ifs t a b => nT κ t + nB a + nB b
  | .fors tg it b => nI κ it + sizeLine * (nG κ tg + nB b)
  | .whl t b => whlMost * (nT κ t + nB b)
  | .pass => 0
  | .brk => 0
  | .cnt => 0
def nB : Bk → Nat
  | .nil => 0
  | .cons s r => nS s + nB r
end
end
def T0 : Nat := 2 ^ 100000
theorem sComp {put : D → Sto → Res Lo} {t : Lo → Sto → Res Bool} {e : Lo → Sto → Res W} {turn : D → Sto → (Option D → Sto → Prop) → Prop} {c T : Nat}
    (hs : ∀ x S S' u K, SW u S S' → u + c ≤ T → turn x S K → Sd (u + c) ((put x S').bind fun τ S0 => (t τ S0).bind fun b S1 => if b = true then (e τ S1).bind fun w S2 => (match w with
        | .d y => .ok (some y) S2
        | .ref _ => .no) else .ok none S1) K noX) : ∀ (xs : List D) (S S' : Sto) (u : Nat) (Q : List D → Sto → Prop), SW u S S' → u + xs.length * c ≤ T → wComp turn xs S Q → Sd (u + xs.length * c) (compL put t e xs S') (fun ys S => ys.length ≤ xs.length ∧ Q ys S) noX
  | [], S, S', u, Q, s, hT, h => by
    unfold compL
    exact ⟨S, s.mono (by simp), Nat.le_refl _, h⟩
  | x :: r, S, S', u, Q, s, hT, h => by
    unfold wComp at h
    unfold compL
    have hm : (x :: r).length * c = c + r.length * c := by rw [List.length_cons, Nat.add_mul, Nat.one_mul, Nat.add_comm]
    rw [hm] at hT ⊢
    have z := hs x S S' u _ s (by omega) h
    have fin : ∀ (o : Option D) (S1 S1' : Sto), SW (u + c) S1 S1' → (wComp turn r S1 fun ys S2 => Q (consO o ys) S2) → Sd (u + c + r.length * c) ((compL put t e r S1').bind fun ys S2 => .ok (consO o ys) S2) (fun ys S => ys.length ≤ (x :: r).length ∧ Q ys S) noX := fun o S1 S1' s1 h1 => by
      refine (sComp hs r S1 S1' (u + c) _ s1 (by omega) h1).bind (Nat.le_refl _) fun ys S2 S2' s2 h2 => ⟨S2, s2, ?_, h2.2⟩
      cases o with
      | none => exact Nat.le_succ_of_le h2.1
      | some y => exact Nat.succ_le_succ h2.1
    rw [show u + (c + r.length * c) = u + c + r.length * c by omega]
    cases q1 : put x S' with
    | no => rw [q1] at z; exact z.elim
    | exc e S1 => rw [q1] at z; obtain ⟨_, _, p⟩ := z; exact p.elim
    | ok τ S0 =>
      rw [q1] at z
      simp only [Res.bind_ok] at z ⊢
      cases q2 : t τ S0 with
      | no => rw [q2] at z; exact z.elim
      | exc e S1 => rw [q2] at z; obtain ⟨_, _, p⟩ := z; exact p.elim
      | ok b S1 =>
        rw [q2] at z
        simp only [Res.bind_ok] at z ⊢
        cases b with
        | false =>
          obtain ⟨S3, s3, p⟩ := z
          have f := fin none S3 S1 s3 p
          rw [if_neg Bool.false_ne_true]
          cases q4 : compL put t e r S1 with
          | no => rw [q4] at f; exact f.elim
          | exc e2 S5 => rw [q4] at f; obtain ⟨_, _, p⟩ := f; exact p.elim
          | ok ys S5 => rw [q4] at f; exact f
        | true =>
          rw [if_pos rfl] at z ⊢
          cases q3 : e τ S1 with
          | no => rw [q3] at z; exact z.elim
          | exc e2 S5 => rw [q3] at z; obtain ⟨_, _, p⟩ := z; exact p.elim
          | ok w S5 =>
            rw [q3] at z
            cases w with
            | ref n => exact z.elim
            | d y =>
              obtain ⟨S3, s3, p⟩ := z
              exact fin (some y) S3 S5 s3 p
theorem bind_assoc' {α β γ : Type} (r : Res α) (f : α → Sto → Res β) (g : β → Sto → Res γ) : (r.bind f).bind g = r.bind fun a S => (f a S).bind g := by cases r <;> rfl
theorem sComp2 {put : D → Sto → Res Lo} {inner : Lo → Sto → Res (List D)} {turn : D → Sto → (List D → Sto → Prop) → Prop} {c T : Nat}
    (hs : ∀ x S S' u K, SW u S S' → u + c ≤ T → turn x S K → Sd (u + c) ((put x S').bind fun τ S0 => inner τ S0) K noX) : ∀ (xs : List D) (S S' : Sto) (u : Nat) (Q : List D → Sto → Prop), SW u S S' → u + xs.length * c ≤ T → wComp2 turn xs S Q → Sd (u + xs.length * c) (compL2 put inner xs S') Q noX
  | [], S, S', u, Q, s, hT, h => by
    unfold compL2
    exact ⟨S, s.mono (by simp), h⟩
  | x :: r, S, S', u, Q, s, hT, h => by
    unfold wComp2 at h
    unfold compL2
    have hm : (x :: r).length * c = c + r.length * c := by rw [List.length_cons, Nat.add_mul, Nat.one_mul, Nat.add_comm]
    rw [hm] at hT ⊢
    rw [show u + (c + r.length * c) = u + c + r.length * c by omega, ← bind_assoc']
    refine (hs x S S' u _ s (by omega) h).bind (by omega) fun ys S1 S1' s1 h1 => ?_
    exact (sComp2 hs r S1 S1' (u + c) _ s1 (by omega) h1).bind (Nat.le_refl _) fun zs S2 S2' s2 h2 => ⟨S2, s2, h2⟩
theorem getL_eq {τ : Lo} {i : Nat} {w : W} (h : getL τ i = some w) : τ[i]? = some (some w) := by
  unfold getL at h
  split at h
  · rename_i q; cases h; exact q
  · cases h
section
variable {C : KF} {F : Fs} {κ : Nat}
/-- of the calls -/
def CS (C : KF) (F : Fs) (κ : Nat) : Prop := ∀ f ws S S' t Q X, SW t S S' → t + κ ≤ T0 → C f ws S Q X → Sd (t + κ) (F f ws S') Q X
mutual
theorem sE (hC : CS C F κ) {τ : Lo} {X : Xv} : ∀ (e : Ex) {S S' : Sto} {t : Nat} {Q : Qv}, SW t S S' → t + nE κ e ≤ T0 → wE C τ S X e Q → Sd (t + nE κ e) (ev F τ S' e) Q X
  | .var i, S, S', t, Q, s, hT, h => by
    simp only [wE] at h
    simp only [ev]
    obtain ⟨w, e, q⟩ := oP_get h
    rw [getL_eq e]
    exact ⟨S, s, q⟩
  | .c x, S, S', t, Q, s, hT, h => by
    simp only [wE] at h
    simp only [ev]
    exact ⟨S, s, h⟩
  | .op1 g a, S, S', t, Q, s, hT, h => by
    simp only [wE] at h
    simp only [ev, nE] at hT ⊢
    refine (sE hC a s hT h).bind (Nat.le_refl _) fun w S1 S1' s1 h1 => ?_
    obtain ⟨x, rfl, h1⟩ := dP_get h1
    obtain ⟨z, e, h1⟩ := oP_get h1
    dsimp only
    rw [e]
    exact ⟨S1, s1, h1⟩
  | .op2 g a b, S, S', t, Q, s, hT, h => by
    simp only [wE] at h
    simp only [ev, nE] at hT ⊢
    refine (sE hC a s (by omega) h).bind (by omega) fun w S1 S1' s1 h1 => (sE hC b s1 (by omega) h1).bind (by omega) fun u S2 S2' s2 h2 => ?_
    obtain ⟨x, y, rfl, rfl, h2⟩ := dP_get2 h2
    obtain ⟨z, e, h2⟩ := oP_get h2
    dsimp only
    rw [e]
    exact ⟨S2, s2.mono (by omega), h2⟩
  | .opn g es, S, S', t, Q, s, hT, h => by
    simp only [wE] at h
    simp only [ev, nE] at hT ⊢
    refine (sEs hC es s hT h).bind (Nat.le_refl _) fun ws S1 S1' s1 h1 => ?_
    obtain ⟨x, e1, h1⟩ := oP_get h1
    obtain ⟨z, e, h1⟩ := oP_get h1
    rw [e1]
    dsimp only
    rw [e]
    exact ⟨S1, s1, h1⟩
  | .ite te a b, S, S', t, Q, s, hT, h => by
    simp only [wE] at h
    simp only [ev, nE] at hT ⊢
    refine (sT hC te s (by omega) h).bind (by omega) fun c S1 S1' s1 h1 => ?_
    split at h1
    · rename_i hc
      rw [if_pos hc]
      exact (sE hC a s1 (by omega) h1).mono (by omega)
    · rename_i hc
      rw [if_neg hc]
      exact (sE hC b s1 (by omega) h1).mono (by omega)
  | .and a b, S, S', t, Q, s, hT, h => by
    simp only [wE] at h
    simp only [ev, nE] at hT ⊢
    refine (sE hC a s (by omega) h).bind (by omega) fun w S1 S1' s1 h1 => ?_
    obtain ⟨c, e, h1⟩ := oP_get h1
    rw [s1.truth e]
    cases c with
    | true => exact (sE hC b s1 (by omega) h1).mono (by omega)
    | false => exact ⟨S1, s1.mono (by omega), h1⟩
  | .or a b, S, S', t, Q, s, hT, h => by
    simp only [wE] at h
    simp only [ev, nE] at hT ⊢
    refine (sE hC a s (by omega) h).bind (by omega) fun w S1 S1' s1 h1 => ?_
    obtain ⟨c, e, h1⟩ := oP_get h1
    rw [s1.truth e]
    cases c with
    | false => exact (sE hC b s1 (by omega) h1).mono (by omega)
    | true => exact ⟨S1, s1.mono (by omega), h1⟩
  | .not a, S, S', t, Q, s, hT, h => by
    simp only [wE] at h
    simp only [ev, nE] at hT ⊢
    refine (sE hC a s (by omega) h).bind (by omega) fun w S1 S1' s1 h1 => ?_
    obtain ⟨c, e, h1⟩ := oP_get h1
    rw [s1.truth e]
    exact ⟨S1, s1, h1⟩
  | .chain g h' a b c, S, S', t, Q, s, hT, h => by
    simp only [wE] at h
    simp only [ev, nE] at hT ⊢
    refine (sE hC a s (by omega) h).bind (by omega) fun w S1 S1' s1 h1 => (sE hC b s1 (by omega) h1).bind (by omega) fun u S2 S2' s2 h2 => ?_
    obtain ⟨x, y, rfl, rfl, h4⟩ := dP_get2 h2
    dsimp only
    clear h2
    unfold boolP at h4
    split at h4
    · rename_i e
      try rw [e]
      try dsimp only
      refine (sE hC c s2 (by omega) h4).bind (by omega) fun v S3 S3' s3 h3 => ?_
      obtain ⟨z, rfl, h3⟩ := dP_get h3
      obtain ⟨r, e, h3⟩ := oP_get h3
      dsimp only
      rw [e]
      exact ⟨S3, s3.mono (by omega), h3⟩
    · rename_i e
      try rw [e]
      exact ⟨S2, s2.mono (by omega), h4⟩
    · exact h4.elim
  | .tup es, S, S', t, Q, s, hT, h => by
    simp only [wE] at h
    simp only [ev, nE] at hT ⊢
    refine (sEs hC es s hT h).bind (Nat.le_refl _) fun ws S1 S1' s1 h1 => ?_
    obtain ⟨x, e1, h1⟩ := oP_get h1
    rw [e1]
    dsimp only
    rw [if_pos h1.1]
    exact ⟨S1, s1, h1.2⟩
  | .lst es, S, S', t, Q, s, hT, h => by
    simp only [wE] at h
    simp only [ev, nE] at hT ⊢
    refine (sEs hC es s hT h).bind (Nat.le_refl _) fun ws S1 S1' s1 h1 => ?_
    obtain ⟨x, e1, h1⟩ := oP_get h1
    rw [e1]
    dsimp only
    rw [if_pos h1.1]
    exact ⟨S1, s1, h1.2⟩
  | .nlst es, S, S', t, Q, s, hT, h => by
    simp only [wE] at h
    simp only [ev, nE] at hT ⊢
    refine (sEs hC es s hT h).bind (Nat.le_refl _) fun ws S1 S1' s1 h1 => ?_
    obtain ⟨x, e1, h1⟩ := oP_get h1
    rw [e1]
    dsimp only
    rw [if_pos h1.1, s1.len]
    exact ⟨_, SW.snoc (a := .dl _) rfl s1, h1.2⟩
  | .sub a i, S, S', t, Q, s, hT, h => by
    simp only [wE] at h
    simp only [ev, nE] at hT ⊢
    refine (sE hC a s (by omega) h).bind (by omega) fun w S1 S1' s1 h1 => (sE hC i s1 (by omega) h1).bind (by omega) fun u S2 S2' s2 h2 => ?_
    obtain ⟨x, e, h2⟩ := oP_get h2
    obtain ⟨y, rfl, h2⟩ := dP_get h2
    obtain ⟨z, e2, h2⟩ := oP_get h2
    rw [s2.asData e]
    dsimp only
    rw [e2]
    exact ⟨S2, s2.mono (by omega), h2⟩
  | .slice a lo hi, S, S', t, Q, s, hT, h => by
    simp only [wE] at h
    simp only [ev, nE] at hT ⊢
    refine (sE hC a s (by omega) h).bind (by omega) fun w S1 S1' s1 h1 => (sE hC lo s1 (by omega) h1).bind (by omega) fun u S2 S2' s2 h2 => ?_
    obtain ⟨l, e, h2⟩ := oP_get h2
    rw [e]
    dsimp only
    refine (sE hC hi s2 (by omega) h2).bind (by omega) fun v S3 S3' s3 h3 => ?_
    obtain ⟨x, e1, h3⟩ := oP_get h3
    obtain ⟨y, e2, h3⟩ := oP_get h3
    obtain ⟨z, e3, h3⟩ := oP_get h3
    rw [s3.asData e1, e2]
    dsimp only
    rw [e3]
    exact ⟨S3, s3.mono (by omega), h3⟩
  | .sliceL a lo, S, S', t, Q, s, hT, h => by
    simp only [wE] at h
    simp only [ev, nE] at hT ⊢
    refine (sE hC a s (by omega) h).bind (by omega) fun w S1 S1' s1 h1 => (sE hC lo s1 (by omega) h1).bind (by omega) fun u S2 S2' s2 h2 => ?_
    obtain ⟨x, e1, h2⟩ := oP_get h2
    obtain ⟨l, e, h2⟩ := oP_get h2
    obtain ⟨z, e3, h2⟩ := oP_get h2
    rw [s2.asData e1, e]
    dsimp only
    rw [e3]
    exact ⟨S2, s2.mono (by omega), h2⟩
  | .sliceR a lo, S, S', t, Q, s, hT, h => by
    simp only [wE] at h
    simp only [ev, nE] at hT ⊢
    refine (sE hC a s (by omega) h).bind (by omega) fun w S1 S1' s1 h1 => (sE hC lo s1 (by omega) h1).bind (by omega) fun u S2 S2' s2 h2 => ?_
    obtain ⟨x, e1, h2⟩ := oP_get h2
    obtain ⟨l, e, h2⟩ := oP_get h2
    obtain ⟨z, e3, h2⟩ := oP_get h2
    rw [s2.asData e1, e]
    dsimp only
    rw [e3]
    exact ⟨S2, s2.mono (by omega), h2⟩
  | .sliceN a, S, S', t, Q, s, hT, h => by
    simp only [wE] at h
    simp only [ev, nE] at hT ⊢
    refine (sE hC a s (by omega) h).bind (by omega) fun w S1 S1' s1 h1 => ?_
    obtain ⟨x, e1, h1⟩ := oP_get h1
    obtain ⟨z, e3, h1⟩ := oP_get h1
    rw [s1.asData e1]
    dsimp only
    rw [e3]
    exact ⟨S1, s1.mono (by omega), h1⟩
  | .call f es, S, S', t, Q, s, hT, h => by
    simp only [wE] at h
    simp only [ev, nE] at hT ⊢
    refine (sEs hC es s (by omega) h).bind (by omega) fun ws S1 S1' s1 h1 => ?_
    exact (hC _ _ _ _ _ _ _ s1 (by omega) h1).mono (by omega)
  | .callk f es ks perm, S, S', t, Q, s, hT, h => by
    simp only [wE] at h
    simp only [ev, nE] at hT ⊢
    refine (sEs hC es s (by omega) h).bind (by omega) fun ws S1 S1' s1 h1 => (sEs hC ks s1 (by omega) h1).bind (by omega) fun wk S2 S2' s2 h2 => ?_
    obtain ⟨us, e, h2⟩ := oP_get h2
    rw [e]
    exact (hC _ _ _ _ _ _ _ s2 (by omega) h2).mono (by omega)
  | .comp vs e tg it te, S, S', t, Q, s, hT, h => by
    simp only [wE] at h
    simp only [ev, nE] at hT ⊢
    refine (sI hC it s (by omega) h).bind (by omega) fun xs S1 S1' s1 ⟨hl, h1⟩ => ?_
    have hz : xs.length * (nG κ tg + nT κ te + nE κ e) ≤ sizeLine * (nG κ tg + nT κ te + nE κ e) := Nat.mul_le_mul_right _ hl
    refine ((sComp (c := nG κ tg + nT κ te + nE κ e) (T := T0) (fun x Z Z' u K sz hu hk => ?_) xs S1 S1' _ _ s1 (by omega) h1).dry).bind (by omega) fun ys S2 S2' s2 ⟨hy, h2⟩ => ?_
    · refine (sP hC tg sz (by omega) hk).bind (by omega) fun τ' Z0 Z0' sz0 hk0 => ?_
      refine (sT hC te sz0 (by omega) hk0).bind (by omega) fun b Z1 Z1' sz1 hk1 => ?_
      cases b with
      | false => exact ⟨Z1, sz1.mono (by omega), hk1⟩
      | true =>
        rw [if_pos rfl] at hk1 ⊢
        refine (sE hC e sz1 (by omega) hk1).bind (by omega) fun w Z2 Z2' sz2 hk2 => ?_
        obtain ⟨y, rfl, hk2⟩ := dP_get hk2
        exact ⟨Z2, sz2.mono (by omega), hk2⟩
    · rw [if_pos (Nat.le_trans hy hl)]
      exact ⟨S2, s2.mono (by omega), h2⟩
  | .compN vs e tg it te, S, S', t, Q, s, hT, h => by
    simp only [wE] at h
    simp only [ev, nE] at hT ⊢
    refine (sI hC it s (by omega) h).bind (by omega) fun xs S1 S1' s1 ⟨hl, h1⟩ => ?_
    have hz : xs.length * (nG κ tg + nT κ te + nE κ e) ≤ sizeLine * (nG κ tg + nT κ te + nE κ e) := Nat.mul_le_mul_right _ hl
    refine ((sComp (c := nG κ tg + nT κ te + nE κ e) (T := T0) (fun x Z Z' u K sz hu hk => ?_) xs S1 S1' _ _ s1 (by omega) h1).dry).bind (by omega) fun ys S2 S2' s2 ⟨hy, h2⟩ => ?_
    · refine (sP hC tg sz (by omega) hk).bind (by omega) fun τ' Z0 Z0' sz0 hk0 => ?_
      refine (sT hC te sz0 (by omega) hk0).bind (by omega) fun b Z1 Z1' sz1 hk1 => ?_
      cases b with
      | false => exact ⟨Z1, sz1.mono (by omega), hk1⟩
      | true =>
        rw [if_pos rfl] at hk1 ⊢
        refine (sE hC e sz1 (by omega) hk1).bind (by omega) fun w Z2 Z2' sz2 hk2 => ?_
        obtain ⟨y, rfl, hk2⟩ := dP_get hk2
        exact ⟨Z2, sz2.mono (by omega), hk2⟩
    · rw [if_pos (Nat.le_trans hy hl), s2.len]
      exact ⟨_, SW.snoc (a := .dl _) rfl (s2.mono (by omega)), h2⟩
  | .dcomp vs kx vx tg it te, S, S', t, Q, s, hT, h => by
    simp only [wE] at h
    simp only [ev, nE] at hT ⊢
    refine (sI hC it s (by omega) h).bind (by omega) fun xs S1 S1' s1 ⟨hl, h1⟩ => ?_
    have hz : xs.length * (nG κ tg + nT κ te + (nE κ kx + nE κ vx)) ≤ sizeLine * (nG κ tg + nT κ te + (nE κ kx + nE κ vx)) := Nat.mul_le_mul_right _ hl
    refine ((sComp (c := nG κ tg + nT κ te + (nE κ kx + nE κ vx)) (T := T0) (fun x Z Z' u K sz hu hk => ?_) xs S1 S1' _ _ s1 (by omega) h1).dry).bind (by omega) fun ys S2 S2' s2 ⟨hy, h2⟩ => ?_
    · refine (sP hC tg sz (by omega) hk).bind (by omega) fun τ' Z0 Z0' sz0 hk0 => ?_
      refine (sT hC te sz0 (by omega) hk0).bind (by omega) fun b Z1 Z1' sz1 hk1 => ?_
      cases b with
      | false => exact ⟨Z1, sz1.mono (by omega), hk1⟩
      | true =>
        rw [if_pos rfl] at hk1 ⊢
        rw [Res.assoc]
        refine (sE hC kx sz1 (by omega) hk1).bind (by omega) fun w Z2 Z2' sz2 hk2 => ?_
        rw [Res.assoc]
        refine (sE hC vx sz2 (by omega) hk2).bind (by omega) fun u Z3 Z3' sz3 hk3 => ?_
        obtain ⟨z, e1, hk3⟩ := oP_get hk3
        rw [e1]
        obtain ⟨y, rfl, hk3⟩ := dP_get hk3
        exact ⟨Z3, sz3.mono (by omega), hk3⟩
    · rw [if_pos (Nat.le_trans hy hl), s2.len]
      obtain ⟨kvs, e1, h2⟩ := oP_get h2
      rw [e1]
      exact ⟨_, SW.snoc (a := .dd _) rfl (s2.mono (by omega)), h2⟩
  | .inD a b, S, S', t, Q, s, hT, h => by
    simp only [wE] at h
    simp only [ev, nE] at hT ⊢
    refine (sE hC a s (by omega) h).bind (by omega) fun w S1 S1' s1 h1 => (sE hC b s1 (by omega) h1).bind (by omega) fun u S2 S2' s2 h2 => ?_
    obtain ⟨c, e1, h2⟩ := oP_get h2
    rw [s2.hasD e1]
    exact ⟨S2, s2.mono (by omega), h2⟩
  | .dz, S, S', t, Q, s, hT, h => by
    simp only [wE] at h
    simp only [ev]
    exact ⟨S, s, h⟩
  | .dnew, S, S', t, Q, s, hT, h => by
    simp only [wE] at h
    simp only [ev, nE] at hT ⊢
    rw [s.len]
    exact ⟨_, SW.snoc (a := .mp _) rfl s, h⟩
  | .nbin g a b, S, S', t, Q, s, hT, h => by
    simp only [wE] at h
    simp only [ev, nE] at hT ⊢
    refine (sE hC a s (by omega) h).bind (by omega) fun w S1 S1' s1 h1 => (sE hC b s1 (by omega) h1).bind (by omega) fun u S2 S2' s2 h2 => ?_
    obtain ⟨x, y, rfl, rfl, h2⟩ := dP_get2 h2
    obtain ⟨z, e, h2⟩ := oP_get h2
    dsimp only
    rw [e]
    cases z <;> try exact h2.elim
    have h2 := h2
    rw [lsP_l] at h2
    dsimp only
    rw [if_pos h2.1, s2.len]
    exact ⟨_, SW.snoc (a := .dl _) rfl (s2.mono (by omega)), h2.2⟩
  | .cmpR g a b, S, S', t, Q, s, hT, h => by
    simp only [wE] at h
    simp only [ev, nE] at hT ⊢
    refine (sE hC a s (by omega) h).bind (by omega) fun w S1 S1' s1 h1 => (sE hC b s1 (by omega) h1).bind (by omega) fun u S2 S2' s2 h2 => ?_
    obtain ⟨x, e1, h2⟩ := oP_get h2
    obtain ⟨y, e2, h2⟩ := oP_get h2
    obtain ⟨z, e3, h2⟩ := oP_get h2
    rw [s2.asData e1, s2.asData e2]
    dsimp only
    rw [e3]
    exact ⟨S2, s2.mono (by omega), h2⟩
  | .rtup es, S, S', t, Q, s, hT, h => by
    simp only [wE] at h
    simp only [ev, nE] at hT ⊢
    refine (sEs hC es s (by omega) h).bind (by omega) fun ws S1 S1' s1 ⟨hl, h1⟩ => ?_
    rw [if_pos hl, s1.len]
    exact ⟨_, SW.snoc (a := .rt _) rfl s1, h1⟩
  | .rlst es, S, S', t, Q, s, hT, h => by
    simp only [wE] at h
    simp only [ev, nE] at hT ⊢
    refine (sEs hC es s (by omega) h).bind (by omega) fun ws S1 S1' s1 ⟨hl, h1⟩ => ?_
    rw [if_pos hl, s1.len]
    exact ⟨_, SW.snoc (a := .rl _) rfl s1, h1⟩
  | .subR a i, S, S', t, Q, s, hT, h => by
    simp only [wE] at h
    simp only [ev, nE] at hT ⊢
    refine (sE hC a s (by omega) h).bind (by omega) fun w S1 S1' s1 h1 => (sE hC i s1 (by omega) h1).bind (by omega) fun u S2 S2' s2 h2 => ?_
    obtain ⟨z, e1, h2⟩ := s2.subW h2
    rw [e1]
    exact ⟨S2, s2.mono (by omega), h2⟩
  | .dget a k x, S, S', t, Q, s, hT, h => by
    simp only [wE] at h
    simp only [ev, nE] at hT ⊢
    refine (sE hC a s (by omega) h).bind (by omega) fun w S1 S1' s1 h1 => ?_
    obtain ⟨n, kvs, rfl, e1, h1⟩ := mpP_get h1
    rw [if_pos (s1.isMp e1)]
    refine (sE hC k s1 (by omega) h1).bind (by omega) fun u S2 S2' s2 h2 => (sE hC x s2 (by omega) h2).bind (by omega) fun v S3 S3' s3 h3 => ?_
    obtain ⟨n', kvs', e0, e3, h3⟩ := mpP_get h3
    cases e0
    obtain ⟨y, rfl, h3⟩ := dP_get h3
    obtain ⟨kk, e4, ok, h3⟩ := oP_get h3
    rw [s3.mpAt e3 e4 ok]
    exact ⟨S3, s3.mono (by omega), h3⟩
  | .dset a k x, S, S', t, Q, s, hT, h => by
    simp only [wE] at h
    simp only [ev, nE] at hT ⊢
    refine (sE hC a s (by omega) h).bind (by omega) fun w S1 S1' s1 h1 => ?_
    obtain ⟨n, kvs, rfl, e1, h1⟩ := mpP_get h1
    rw [if_pos (s1.isMp e1)]
    refine (sE hC k s1 (by omega) h1).bind (by omega) fun u S2 S2' s2 h2 => (sE hC x s2 (by omega) h2).bind (by omega) fun v S3 S3' s3 h3 => ?_
    obtain ⟨n', kvs', e0, e3, h3⟩ := mpP_get h3
    cases e0
    obtain ⟨y, rfl, h3⟩ := dP_get h3
    obtain ⟨kk, e4, ok, h3⟩ := oP_get h3
    rw [s3.mpAt e3 e4 ok]
    dsimp only
    unfold dsP at h3
    cases e5 : atM kvs' kk with
    | some z =>
      rw [e5] at h3
      exact ⟨S3, s3.mono (by omega), h3⟩
    | none =>
      rw [e5] at h3
      dsimp only
      rw [if_pos h3.1]
      exact ⟨_, SW.set (a := .mp _) rfl (s3.mono (by omega)), h3.2⟩
  | .dkeys a, S, S', t, Q, s, hT, h => by
    simp only [wE] at h
    simp only [ev, nE] at hT ⊢
    refine (sE hC a s (by omega) h).bind (by omega) fun w S1 S1' s1 h1 => ?_
    obtain ⟨n, kvs, rfl, e1, h1⟩ := mpP_get h1
    dsimp only
    rw [s1.mp e1]
    dsimp only
    rw [if_pos h1.1]
    exact ⟨S1, s1, h1.2⟩
  | .dsort a, S, S', t, Q, s, hT, h => by
    simp only [wE] at h
    simp only [ev, nE] at hT ⊢
    refine (sE hC a s (by omega) h).bind (by omega) fun w S1 S1' s1 h1 => ?_
    obtain ⟨n, kvs, rfl, e1, h1⟩ := mpP_get h1
    obtain ⟨xs, e2, h1⟩ := oP_get h1
    dsimp only
    rw [s1.mp e1]
    dsimp only
    rw [e2]
    exact ⟨S1, s1, h1⟩
  | .demp b a, S, S', t, Q, s, hT, h => by
    simp only [wE] at h
    simp only [ev, nE] at hT ⊢
    refine (sE hC a s (by omega) h).bind (by omega) fun w S1 S1' s1 h1 => ?_
    obtain ⟨n, kvs, rfl, e1, h1⟩ := mpP_get h1
    dsimp only
    rw [s1.mp e1]
    exact ⟨S1, s1, h1⟩
  | .comp2 vs vs1 e tg it tg1 it1 t1, S, S', t, Q, s, hT, h => by
    simp only [wE] at h
    simp only [ev, nE] at hT ⊢
    refine (sI hC it s (by omega) h).bind (by omega) fun xs S1 S1' s1 ⟨hl, h1⟩ => ?_
    have hz : xs.length * (nG κ tg + nI κ it1 + sizeLine * (nG κ tg1 + nT κ t1 + nE κ e)) ≤ sizeLine * (nG κ tg + nI κ it1 + sizeLine * (nG κ tg1 + nT κ t1 + nE κ e)) := Nat.mul_le_mul_right _ hl
    refine ((sComp2 (c := nG κ tg + nI κ it1 + sizeLine * (nG κ tg1 + nT κ t1 + nE κ e)) (T := T0) (fun x Z Z' u K sz hu hk => ?_) xs S1 S1' _ _ s1 (by omega) h1).dry).bind (by omega) fun ys S2 S2' s2 ⟨hy, h2⟩ => ?_
    · refine (sP hC tg sz (by omega) hk).bind (by omega) fun τ' Z0 Z0' sz0 hk0 => ?_
      refine (sI hC it1 sz0 (by omega) hk0).bind (by omega) fun ys Z1 Z1' sz1 ⟨hl1, hk1⟩ => ?_
      have hz1 : ys.length * (nG κ tg1 + nT κ t1 + nE κ e) ≤ sizeLine * (nG κ tg1 + nT κ t1 + nE κ e) := Nat.mul_le_mul_right _ hl1
      refine Sd.imp (Sd.mono (sComp (c := nG κ tg1 + nT κ t1 + nE κ e) (T := T0) (fun x Z Z' u K sz hu hk => ?_) ys Z1 Z1' _ _ sz1 (by omega) hk1) (by omega)) fun zs Z2 h2 => h2.2
      refine (sP hC tg1 sz (by omega) hk).bind (by omega) fun τ' Z0 Z0' sz0 hk0 => ?_
      refine (sT hC t1 sz0 (by omega) hk0).bind (by omega) fun b Z1 Z1' sz1 hk1 => ?_
      cases b with
      | false => exact ⟨Z1, sz1.mono (by omega), hk1⟩
      | true =>
        rw [if_pos rfl] at hk1 ⊢
        refine (sE hC e sz1 (by omega) hk1).bind (by omega) fun w Z2 Z2' sz2 hk2 => ?_
        obtain ⟨y, rfl, hk2⟩ := dP_get hk2
        exact ⟨Z2, sz2.mono (by omega), hk2⟩
    · rw [if_pos hy]
      exact ⟨S2, s2.mono (by omega), h2⟩
  | .mstr g o es, S, S', t, Q, s, hT, h => by
    simp only [wE] at h
    simp only [ev, nE] at hT ⊢
    refine (sE hC o s (by omega) h).bind (by omega) fun w S1 S1' s1 h1 => ?_
    obtain ⟨x, rfl, h1⟩ := strP_get h1
    dsimp only
    refine (sEs hC es s1 (by omega) h1).bind (by omega) fun ws S2 S2' s2 h2 => ?_
    obtain ⟨xs, e, h2⟩ := oP_get h2
    obtain ⟨z, e2, h2⟩ := oP_get h2
    rw [e]
    dsimp only
    rw [e2]
    exact ⟨S2, s2.mono (by omega), h2⟩
  | .mlst gd gs o es, S, S', t, Q, s, hT, h => by
    simp only [wE] at h
    simp only [ev, nE] at hT ⊢
    refine (sE hC o s (by omega) h).bind (by omega) fun w S1 S1' s1 h1 => ?_
    unfold mlP at h1
    split at h1
    · try dsimp only
      refine (sEs hC es s1 (by omega) h1).bind (by omega) fun ws S2 S2' s2 h2 => ?_
      obtain ⟨xs, e, h2⟩ := oP_get h2
      obtain ⟨z, e2, h2⟩ := oP_get h2
      rw [e]
      dsimp only
      rw [e2]
      exact ⟨S2, s2.mono (by omega), h2⟩
    · obtain ⟨ys, e0, h1⟩ := dlP_get h1
      try dsimp only
      rw [s1.dl e0]
      dsimp only
      refine (sEs hC es s1 (by omega) h1).bind (by omega) fun ws S2 S2' s2 h2 => ?_
      obtain ⟨zs, e1, h2⟩ := dlP_get h2
      obtain ⟨xs, e, h2⟩ := oP_get h2
      obtain ⟨p, e2, h2⟩ := oP_get h2
      rw [s2.dl e1, e]
      dsimp only
      rw [e2]
      exact ⟨_, SW.set (a := .dl _) rfl (s2.mono (by omega)), h2⟩
    · exact h1.elim
  | .len a, S, S', t, Q, s, hT, h => by
    simp only [wE] at h
    simp only [ev, nE] at hT ⊢
    refine (sE hC a s (by omega) h).bind (by omega) fun w S1 S1' s1 h1 => ?_
    unfold lenP at h1
    split at h1
    · rename_i xs q
      rw [s1.asData q]
      exact ⟨S1, s1, h1⟩
    · rename_i xs q
      rw [s1.asData q]
      exact ⟨S1, s1, h1⟩
    · rename_i xs q
      rw [s1.asData q]
      dsimp only
      rw [if_pos h1.1]
      exact ⟨S1, s1, h1.2⟩
    · exact h1.elim
  | .frz a, S, S', t, Q, s, hT, h => by
    simp only [wE] at h
    simp only [ev, nE] at hT ⊢
    refine (sE hC a s (by omega) h).bind (by omega) fun w S1 S1' s1 h1 => ?_
    unfold frzP at h1
    cases w with
    | d x => exact ⟨S1, s1, h1⟩
    | ref n =>
      dsimp only at h1 ⊢
      split at h1
      · rename_i xs q
        rw [s1.dl q]
        exact ⟨_, SW.set (a := .fz _) rfl s1, h1⟩
      · rename_i xs q
        rw [s1.fz q]
        exact ⟨_, s1, h1⟩
      · exact h1.elim
  | .bad, S, S', t, Q, s, hT, h => by
    simp only [wE] at h
theorem sEs (hC : CS C F κ) {τ : Lo} {X : Xv} : ∀ (es : Exs) {S S' : Sto} {t : Nat} {Q : List W → Sto → Prop}, SW t S S' → t + nEs κ es ≤ T0 → wEs C τ S X es Q → Sd (t + nEs κ es) (evs F τ S' es) Q X
  | .nil, S, S', t, Q, s, hT, h => by
    simp only [wEs] at h
    simp only [evs]
    exact ⟨S, s, h⟩
  | .cons e r, S, S', t, Q, s, hT, h => by
    simp only [wEs] at h
    simp only [evs, nEs] at hT ⊢
    refine (sE hC e s (by omega) h).bind (by omega) fun w S1 S1' s1 h1 => (sEs hC r s1 (by omega) h1).bind (by omega) fun u S2 S2' s2 h2 => ?_
    exact ⟨S2, s2.mono (by omega), h2⟩
  | .star e r, S, S', t, Q, s, hT, h => by
    simp only [wEs] at h
    simp only [evs, nEs] at hT ⊢
    refine (sE hC e s (by omega) h).bind (by omega) fun w S1 S1' s1 h1 => ?_
    obtain ⟨x, rfl, h1⟩ := dP_get h1
    obtain ⟨xs, e1, h1⟩ := oP_get h1
    dsimp only
    rw [e1]
    dsimp only
    refine (sEs hC r s1 (by omega) h1).bind (by omega) fun u S2 S2' s2 h2 => ?_
    exact ⟨S2, s2.mono (by omega), h2⟩
theorem sT (hC : CS C F κ) {τ : Lo} {X : Xv} : ∀ (te : Te) {S S' : Sto} {t : Nat} {Q : Bool → Sto → Prop}, SW t S S' → t + nT κ te ≤ T0 → wT C τ S X te Q → Sd (t + nT κ te) (evT F τ S' te) Q X
  | .tt, S, S', t, Q, s, hT, h => by
    simp only [wT] at h
    simp only [evT]
    exact ⟨S, s, h⟩
  | .e x, S, S', t, Q, s, hT, h => by
    simp only [wT] at h
    simp only [evT, nT] at hT ⊢
    refine (sE hC x s (by omega) h).bind (by omega) fun w S1 S1' s1 h1 => ?_
    obtain ⟨c, e, h1⟩ := oP_get h1
    rw [s1.truth e]
    exact ⟨S1, s1, h1⟩
  | .and a b, S, S', t, Q, s, hT, h => by
    simp only [wT] at h
    simp only [evT, nT] at hT ⊢
    refine (sT hC a s (by omega) h).bind (by omega) fun c S1 S1' s1 h1 => ?_
    cases c with
    | true => exact (sT hC b s1 (by omega) h1).mono (by omega)
    | false => exact ⟨S1, s1.mono (by omega), h1⟩
  | .or a b, S, S', t, Q, s, hT, h => by
    simp only [wT] at h
    simp only [evT, nT] at hT ⊢
    refine (sT hC a s (by omega) h).bind (by omega) fun c S1 S1' s1 h1 => ?_
    cases c with
    | false => exact (sT hC b s1 (by omega) h1).mono (by omega)
    | true => exact ⟨S1, s1.mono (by omega), h1⟩
  | .not a, S, S', t, Q, s, hT, h => by
    simp only [wT] at h
    simp only [evT, nT] at hT ⊢
    refine (sT hC a s (by omega) h).bind (by omega) fun c S1 S1' s1 h1 => ⟨S1, s1, h1⟩
  | .ite c a b, S, S', t, Q, s, hT, h => by
    simp only [wT] at h
    simp only [evT, nT] at hT ⊢
    refine (sT hC c s (by omega) h).bind (by omega) fun c S1 S1' s1 h1 => ?_
    cases c with
    | true => exact (sT hC a s1 (by omega) h1).mono (by omega)
    | false => exact (sT hC b s1 (by omega) h1).mono (by omega)
theorem sI (hC : CS C F κ) {τ : Lo} {X : Xv} : ∀ (ie : Ie) {S S' : Sto} {t : Nat} {Q : List D → Sto → Prop}, SW t S S' → t + nI κ ie ≤ T0 → wI C τ S X ie Q → Sd (t + nI κ ie) (evI F τ S' ie) Q X
  | .seq e, S, S', t, Q, s, hT, h => by
    simp only [wI] at h
    simp only [evI, nI] at hT ⊢
    refine (sE hC e s (by omega) h).bind (by omega) fun w S1 S1' s1 h1 => ?_
    obtain ⟨x, rfl, h1⟩ := dP_get h1
    exact Sd.opt s1 h1
  | .rng a b, S, S', t, Q, s, hT, h => by
    simp only [wI] at h
    simp only [evI, nI] at hT ⊢
    refine (sE hC a s (by omega) h).bind (by omega) fun w S1 S1' s1 h1 => (sE hC b s1 (by omega) h1).bind (by omega) fun u S2 S2' s2 h2 => ?_
    obtain ⟨x, y, rfl, rfl, h2⟩ := intP_get2 h2
    dsimp only
    rw [if_pos h2.1]
    exact ⟨S2, s2.mono (by omega), h2.2⟩
  | .rng3 a b c, S, S', t, Q, s, hT, h => by
    simp only [wI] at h
    simp only [evI, nI] at hT ⊢
    refine (sE hC a s (by omega) h).bind (by omega) fun w S1 S1' s1 h1 => (sE hC b s1 (by omega) h1).bind (by omega) fun u S2 S2' s2 h2 => (sE hC c s2 (by omega) h2).bind (by omega) fun v S3 S3' s3 h3 => ?_
    obtain ⟨x, y, z, rfl, rfl, rfl, h3⟩ := intP_get3 h3
    dsimp only
    rw [if_pos h3.1]
    exact ⟨S3, s3.mono (by omega), h3.2⟩
  | .enum e, S, S', t, Q, s, hT, h => by
    simp only [wI] at h
    simp only [evI, nI] at hT ⊢
    refine (sE hC e s (by omega) h).bind (by omega) fun w S1 S1' s1 h1 => ?_
    obtain ⟨x, rfl, h1⟩ := dP_get h1
    obtain ⟨xs, e1, h1⟩ := oP_get h1
    dsimp only
    rw [e1]
    exact ⟨S1, s1, h1⟩
  | .zip a b, S, S', t, Q, s, hT, h => by
    simp only [wI] at h
    simp only [evI, nI] at hT ⊢
    refine (sE hC a s (by omega) h).bind (by omega) fun w S1 S1' s1 h1 => (sE hC b s1 (by omega) h1).bind (by omega) fun u S2 S2' s2 h2 => ?_
    unfold zipP at h2
    split at h2
    · obtain ⟨xs, e1, h2⟩ := oP_get h2
      obtain ⟨ys, e2, h2⟩ := oP_get h2
      try dsimp only
      rw [e1, e2]
      exact ⟨S2, s2.mono (by omega), h2⟩
    · exact h2.elim
theorem sP (hC : CS C F κ) {X : Xv} : ∀ (tg : Tg) {τ : Lo} {S S' : Sto} {w : W} {t : Nat} {K : Lo → Sto → Prop}, SW t S S' → t + nG κ tg ≤ T0 → wP C τ S tg w K → Sd (t + nG κ tg) (put F τ S' w tg) K X
  | .v i, τ, S, S', w, t, K, s, hT, h => by
    simp only [wP] at h
    simp only [put]
    exact ⟨S, s, h⟩
  | .e, τ, S, S', w, t, K, s, hT, h => by
    simp only [wP] at h
    simp only [put]
    unfold tupP at h
    split at h
    · exact h.elim
    · exact ⟨S, s, h⟩
    · exact h.elim
  | .t l r, τ, S, S', w, t, K, s, hT, h => by
    simp only [wP] at h
    simp only [put, nG] at hT ⊢
    unfold tupP at h
    split at h
    · dsimp only
      exact (sP hC l s (by omega) h).bind (by omega) fun τ1 S1 S1' s1 h1 => (sP hC r s1 (by omega) h1).mono (by omega)
    · exact h.elim
    · exact h.elim
  | .u i j, τ, S, S', w, t, K, s, hT, h => by
    simp only [wP] at h
    simp only [put]
    unfold rtP at h
    cases w with
    | d x => exact h.elim
    | ref n =>
      obtain ⟨o, e, h⟩ := oP_get h
      cases o <;> try exact False.elim h
      rename_i ws
      dsimp only
      rw [s.rt e]
      match ws, h with
      | [a, b], h => exact ⟨S, s, h⟩
  | .us is, τ, S, S', w, t, K, s, hT, h => by
    simp only [wP] at h
    simp only [put]
    unfold rtsP at h
    cases w with
    | d x => exact h.elim
    | ref n =>
      obtain ⟨o, e, h⟩ := oP_get h
      cases o <;> try exact False.elim h
      rename_i ws
      have h : ws.length = is.length ∧ K (setAll τ is ws) S := h
      dsimp only
      rw [s.rt e]
      dsimp only
      rw [if_pos h.1]
      exact ⟨S, s, h.2⟩
  | .s o i, τ, S, S', w, t, K, s, hT, h => by
    simp only [wP] at h
    simp only [put, nG] at hT ⊢
    refine ((sE hC o s (by omega) h).dry).bind (by omega) fun p S1 S1' s1 h1 => ((sE hC i s1 (by omega) h1).dry).bind (by omega) fun q S2 S2' s2 h2 => ?_
    unfold putP at h2
    split at h2
    · rename_i n y
      obtain ⟨ob, e, h2⟩ := obP_get h2
      unfold putW
      dsimp only
      cases ob with
      | dl xs =>
        rw [s2.dl e]
        cases y with
        | int k =>
          cases w with
          | ref j => exact False.elim h2
          | d x =>
            obtain ⟨j, e2, h2⟩ := oP_get (show oP (L2.ixN xs.length k) fun j => K τ (S2.set n (.dl (xs.set j x))) from h2)
            dsimp only
            rw [e2]
            exact ⟨_, SW.set (a := .dl _) rfl (s2.mono (by omega)), h2⟩
        | _ => cases w <;> exact False.elim h2
      | rl ws =>
        rw [s2.rl e]
        cases y with
        | int k =>
          obtain ⟨j, e2, h2⟩ := oP_get (show oP (L2.ixN ws.length k) fun j => K τ (S2.set n (.rl (ws.set j w))) from h2)
          dsimp only
          rw [e2]
          exact ⟨_, SW.set (a := .rl _) rfl (s2.mono (by omega)), h2⟩
        | _ => exact False.elim h2
      | mp kvs =>
        rw [s2.mp e]
        obtain ⟨k, e2, c, h2⟩ := oP_get (show oP (keyM y) fun k => (okM kvs k = true ∧ kvs.length < sizeLine) ∧ K τ (S2.set n (.mp (putM kvs k w))) from h2)
        dsimp only
        rw [e2]
        simp only [Option.bind_some]
        rw [if_pos c]
        exact ⟨_, SW.set (a := .mp _) rfl (s2.mono (by omega)), h2⟩
      | _ => exact False.elim h2
    · exact h2.elim
end
end
end Ft
namespace Ft
open PySem PySem.Spec L2
theorem sFor {put : Lo → D → Sto → Res Lo} {body : Lo → Sto → Res Fl} {turn : D → Lo → Sto → Rv → Prop} {c T : Nat}
    (hs : ∀ x τ S S' u K, SW u S S' → u + c ≤ T → turn x τ S K → Sd (u + c) ((put τ x S').up τ fun τ1 S1 => body τ1 S1) K noX) : ∀ (xs : List D) (τ : Lo) (S S' : Sto) (u : Nat) (R : Rv), SW u S S' → u + xs.length * c ≤ T → wFor turn xs τ S R → Sd (u + xs.length * c) (forL put body xs τ S') R noX
  | [], τ, S, S', u, R, s, hT, h => by
    unfold forL
    exact ⟨S, s.mono (by simp), h⟩
  | x :: r, τ, S, S', u, R, s, hT, h => by
    unfold wFor at h
    unfold forL
    have hm : (x :: r).length * c = c + r.length * c := by rw [List.length_cons, Nat.add_mul, Nat.one_mul, Nat.add_comm]
    rw [hm] at hT ⊢
    have z := hs x τ S S' u _ s (by omega) h
    cases q1 : put τ x S' with
    | no => rw [q1] at z; exact z.elim
    | exc e S1 =>
      rw [q1] at z
      obtain ⟨S2, s2, p⟩ := z
      exact ⟨S2, s2.mono (by omega), p⟩
    | ok τ1 S1 =>
      rw [q1] at z
      simp only [Res.up_ok] at z ⊢
      cases q2 : body τ1 S1 with
      | no => rw [q2] at z; exact z.elim
      | exc e S2 => rw [q2] at z; obtain ⟨_, _, p⟩ := z; exact p.elim
      | ok f S2 =>
        rw [q2] at z
        obtain ⟨S3, s3, p⟩ := z
        simp only [Res.bind_ok]
        cases f with
        | nx τ2 => exact (sFor hs r τ2 S3 S2 (u + c) R s3 (by omega) p).mono (by omega)
        | cnt τ2 => exact (sFor hs r τ2 S3 S2 (u + c) R s3 (by omega) p).mono (by omega)
        | brk τ2 => exact ⟨S3, s3.mono (by omega), p⟩
        | ret w => exact ⟨S3, s3.mono (by omega), p⟩
        | rs τ2 e => exact ⟨S3, s3.mono (by omega), p⟩
theorem sWhl {t : Lo → Sto → Res Bool} {body : Lo → Sto → Res Fl} {wt : Lo → Sto → Xv → (Bool → Sto → Prop) → Prop} {wb : Lo → Sto → Rv → Prop} {c1 c2 T : Nat}
    (ht : ∀ τ S S' u X Q, SW u S S' → u + c1 ≤ T → wt τ S X Q → Sd (u + c1) (t τ S') Q X)
    (hb : ∀ τ S S' u R, SW u S S' → u + c2 ≤ T → wb τ S R → Sd (u + c2) (body τ S') R noX) : ∀ (n : Nat) (τ : Lo) (S S' : Sto) (u : Nat) (R : Rv), SW u S S' → u + n * (c1 + c2) ≤ T → wWhl wt wb n τ S R → Sd (u + n * (c1 + c2)) (whlL t body n τ S') R noX
  | 0, τ, S, S', u, R, s, hT, h => h.elim
  | n + 1, τ, S, S', u, R, s, hT, h => by
    unfold wWhl at h
    unfold whlL
    have hm : (n + 1) * (c1 + c2) = c1 + c2 + n * (c1 + c2) := by rw [Nat.add_mul, Nat.one_mul, Nat.add_comm]
    rw [hm] at hT ⊢
    refine (ht τ S S' u _ _ s (by omega) h).up (by omega) fun b S1 S1' s1 h1 => ?_
    cases b with
    | false => exact ⟨S1, s1.mono (by omega), h1⟩
    | true =>
      rw [if_pos rfl] at h1 ⊢
      refine (hb τ S1 S1' _ _ s1 (by omega) h1).bind (by omega) fun f S2 S2' s2 h2 => ?_
      cases f with
      | nx τ2 => exact (sWhl ht hb n τ2 S2 S2' _ R s2 (by omega) h2).mono (by omega)
      | cnt τ2 => exact (sWhl ht hb n τ2 S2 S2' _ R s2 (by omega) h2).mono (by omega)
      | brk τ2 => exact ⟨S2, s2.mono (by omega), h2⟩
      | ret w => exact ⟨S2, s2.mono (by omega), h2⟩
      | rs τ2 e => exact ⟨S2, s2.mono (by omega), h2⟩
section
variable {C : KF} {F : Fs} {κ : Nat}
theorem Sd.noX {α : Type} {t : Nat} {r : Res α} {P : α → Sto → Prop} {X : Xv} (h : Sd t r P Ft.noX) : Sd t r P X := by
  cases r with
  | ok a S' => exact h
  | exc e S' => obtain ⟨S, s, p⟩ := h; exact p.elim
  | no => exact h.elim
mutual
theorem sS (hC : CS C F κ) : ∀ (m : Sm) {τ : Lo} {S S' : Sto} {t : Nat} {R : Rv}, SW t S S' → t + nS κ m ≤ T0 → wS C τ S m R → Sd (t + nS κ m) (exe F τ S' m) R noX
  | .ex e, τ, S, S', t, R, s, hT, h => by
    simp only [wS] at h
    simp only [exe, nS] at hT ⊢
    exact (sE hC e s hT h).up (Nat.le_refl _) fun w S1 S1' s1 h1 => ⟨S1, s1, h1⟩
  | .asg tg e, τ, S, S', t, R, s, hT, h => by
    simp only [wS] at h
    simp only [exe, nS] at hT ⊢
    refine (sE hC e s (by omega) h).up (by omega) fun w S1 S1' s1 h1 => (sP (X := fun e S => R (.rs τ e) S) hC tg s1 (by omega) h1).up (by omega) fun τ1 S2 S2' s2 h2 => ⟨S2, s2.mono (by omega), h2⟩
  | .par i j a b, τ, S, S', t, R, s, hT, h => by
    simp only [wS] at h
    simp only [exe, nS] at hT ⊢
    exact (sE hC a s (by omega) h).up (by omega) fun w S1 S1' s1 h1 => (sE hC b s1 (by omega) h1).up (by omega) fun u S2 S2' s2 h2 => ⟨S2, s2.mono (by omega), h2⟩
  | .par3 i j l a b c, τ, S, S', t, R, s, hT, h => by
    simp only [wS] at h
    simp only [exe, nS] at hT ⊢
    exact (sE hC a s (by omega) h).up (by omega) fun w S1 S1' s1 h1 => (sE hC b s1 (by omega) h1).up (by omega) fun u S2 S2' s2 h2 => (sE hC c s2 (by omega) h2).up (by omega) fun v S3 S3' s3 h3 => ⟨S3, s3.mono (by omega), h3⟩
  | .aug i g e, τ, S, S', t, R, s, hT, h => by
    simp only [wS] at h
    simp only [exe, nS] at hT ⊢
    obtain ⟨z, e1, h⟩ := oP_get h
    rw [getL_eq e1]
    obtain ⟨x, rfl, h⟩ := dP_get h
    dsimp only
    refine (sE hC e s hT (by assumption)).up (Nat.le_refl _) fun w S1 S1' s1 h1 => ?_
    obtain ⟨y, rfl, h1⟩ := dP_get h1
    obtain ⟨z, e2, h1⟩ := oP_get h1
    dsimp only
    rw [e2]
    exact ⟨S1, s1, h1⟩
  | .ret e, τ, S, S', t, R, s, hT, h => by
    simp only [wS] at h
    simp only [exe, nS] at hT ⊢
    exact (sE hC e s hT h).up (Nat.le_refl _) fun w S1 S1' s1 h1 => ⟨S1, s1, h1⟩
  | .ifs te a b, τ, S, S', t, R, s, hT, h => by
    simp only [wS] at h
    simp only [exe, nS] at hT ⊢
    refine (sT hC te s (by omega) h).up (by omega) fun c S1 S1' s1 h1 => ?_
    cases c with
    | true => exact (sB hC a s1 (by omega) h1).mono (by omega)
    | false => exact (sB hC b s1 (by omega) h1).mono (by omega)
  | .fors tg it b, τ, S, S', t, R, s, hT, h => by
    simp only [wS] at h
    simp only [exe, nS] at hT ⊢
    refine (sI hC it s (by omega) h).up (by omega) fun xs S1 S1' s1 ⟨hl, h1⟩ => ?_
    have hz : xs.length * (nG κ tg + nB κ b) ≤ sizeLine * (nG κ tg + nB κ b) := Nat.mul_le_mul_right _ hl
    refine (sFor (c := nG κ tg + nB κ b) (T := T0) (fun x τ Z Z' u K sz hu hk => ?_) xs τ S1 S1' _ R s1 (by omega) h1).mono (by omega)
    exact (sP hC tg sz (by omega) hk).up (by omega) fun τ1 Z1 Z1' sz1 hk1 => (sB hC b sz1 (by omega) hk1).mono (by omega)
  | .whl te b, τ, S, S', t, R, s, hT, h => by
    simp only [wS] at h
    simp only [exe, nS] at hT ⊢
    exact sWhl (T := T0) (wt := fun τ S X Q => wT C τ S X te Q) (wb := fun τ S K => wB C τ S b K) (fun τ S S' u X Q s hu h => sT hC te s hu h) (fun τ S S' u R s hu h => sB hC b s hu h) whlMost τ S S' t R s hT h
  | .pass, τ, S, S', t, R, s, hT, h => by
    simp only [wS] at h
    simp only [exe]
    exact ⟨S, s, h⟩
  | .brk, τ, S, S', t, R, s, hT, h => by
    simp only [wS] at h
    simp only [exe]
    exact ⟨S, s, h⟩
  | .cnt, τ, S, S', t, R, s, hT, h => by
    simp only [wS] at h
    simp only [exe]
    exact ⟨S, s, h⟩
theorem sB (hC : CS C F κ) : ∀ (b : Bk) {τ : Lo} {S S' : Sto} {t : Nat} {R : Rv}, SW t S S' → t + nB κ b ≤ T0 → wB C τ S b R → Sd (t + nB κ b) (exs F τ S' b) R noX
  | .nil, τ, S, S', t, R, s, hT, h => by
    simp only [wB] at h
    simp only [exs]
    exact ⟨S, s, h⟩
  | .cons m r, τ, S, S', t, R, s, hT, h => by
    simp only [wB] at h
    simp only [exs, nB] at hT ⊢
    refine (sS hC m s (by omega) h).bind (by omega) fun f S1 S1' s1 h1 => ?_
    cases f with
    | nx τ1 => exact (sB hC r s1 (by omega) h1).mono (by omega)
    | cnt τ2 => exact ⟨S1, s1.mono (by omega), h1⟩
    | brk τ2 => exact ⟨S1, s1.mono (by omega), h1⟩
    | ret w => exact ⟨S1, s1.mono (by omega), h1⟩
    | rs τ2 e => exact ⟨S1, s1.mono (by omega), h1⟩
end
end
def wDraw (ws : List W) (S : Sto) (Q : Qv) : Prop := match ws with
  | [.ref n, .d (.int m)] => S[n]? = some .tok ∧ 0 < m ∧ m < 2 ^ 62 ∧ ∀ d : Nat, (d : Int) < m → Q (.d (.int d)) S
  | _ => False
def wWell (ws : List W) (S : Sto) (Q : Qv) : Prop := match ws with
  | [.d (.list ds), .d (.int i)] => (∃ ns : List Int, ds = ns.map .int ∧ ns.length ≤ 63) ∧ (0 ≤ i ∧ i < 1000) ∧ Q (.ref S.length) (S ++ [.tok])
  | _ => False
theorem wDraw_get {ws : List W} {S : Sto} {Q : Qv} (h : wDraw ws S Q) : ∃ n m, ws = [.ref n, .d (.int m)] ∧ S[n]? = some .tok ∧ 0 < m ∧ m < 2 ^ 62 ∧ ∀ d : Nat, (d : Int) < m → Q (.d (.int d)) S := by
  unfold wDraw at h
  split at h
  · exact ⟨_, _, rfl, h⟩
  · exact h.elim
theorem wWell_get {ws : List W} {S : Sto} {Q : Qv} (h : wWell ws S Q) : ∃ ds i, ws = [.d (.list ds), .d (.int i)] ∧ (∃ ns : List Int, ds = ns.map .int ∧ ns.length ≤ 63) ∧ (0 ≤ i ∧ i < 1000) ∧ Q (.ref S.length) (S ++ [.tok]) := by
  unfold wWell at h
  split at h
  · exact ⟨_, _, rfl, h⟩
  · exact h.elim
def wcalls (G : Tbl) : Nat → KF
  | 0, _, _, _, _, _ => False
  | k + 1, f, ws, S, Q, X => oP (G f) fun fd => ws.length = fd.np ∧ if fd.kd = 1 then wDraw ws S Q else if fd.kd = 2 then wWell ws S Q else if fd.iso = true then wIso fd.fresh (wRun (wcalls G k) fd) ws S Q X else wRun (wcalls G k) fd ws S Q X
/-- what is asked of draws and wells -/
def DrawOk (fd : Fn) : Prop := fd.iso = true ∧ fd.np = 2 ∧ ∀ (F : Fs) (n : Nat) (m t : Int) (S : Sto) (w : Ob), S[n]? = some w → Wl t w → t < T0 → 0 < m → m < 2 ^ 62 → ∃ (d : Nat) (w' : Ob), (d : Int) < m ∧ Wl (t + 1) w' ∧ fd.call F [.ref n, .d (.int m)] S = .ok (.d (.int d)) (S.set n w')
def WellOk (fd : Fn) : Prop := fd.iso = true ∧ fd.np = 2 ∧ ∀ (F : Fs) (ns : List Int) (i : Nat) (S : Sto), ns.length ≤ 63 → i < 1000 → ∃ w, Wl 0 w ∧ fd.call F [.d (.list (ns.map .int)), .d (.int i)] S = .ok (.ref S.length) (S ++ [w])
structure Kds (G : Tbl) : Prop where
  d : ∀ i fd, G i = some fd → fd.kd = 1 → DrawOk fd
  w : ∀ i fd, G i = some fd → fd.kd = 2 → WellOk fd
/-- how many calls a def's body has -/
def capped (M : Nat) (G : Tbl) : Prop := ∀ κ, 1 ≤ κ → ∀ i fd, G i = some fd → nB κ fd.body ≤ κ * M
def kap (M : Nat) : Nat → Nat
  | 0 => 1
  | k + 1 => kap M k * (M + 1)
theorem kap_pos (M : Nat) : ∀ k, 1 ≤ kap M k
  | 0 => Nat.le_refl _
  | k + 1 => Nat.mul_pos (kap_pos M k) (Nat.succ_pos _)
theorem iso_back_w {t : Nat} {fresh : Bool} {S S' Z Z' : Sto} {ns : List Nat} {Q : Qv} {X : Xv} {w : W} (s : SW t S S') (z : SW t Z Z') (h : isoP fresh S ns Q w Z) :
    Sd t (match putShut S' ns Z' with
      | some S2 => (match w with
        | .d x => .ok (.d x) S2
        | .ref k => if k < ns.length then (match ns[k]? with
            | some n => .ok (.ref n) S2
            | none => .no)
          else match Z'[k]? with
            | some (.dl xs) => if fresh = true then .ok (.ref S2.length) (S2 ++ [.dl xs]) else .ok (.d (.list xs)) S2
            | some (.dd xs) => if fresh = true then .ok (.ref S2.length) (S2 ++ [.dd xs]) else .no
            | some (.mp xs) => if fresh = true ∧ allD xs = true then .ok (.ref S2.length) (S2 ++ [.mp xs]) else .no
            | _ => .no)
      | none => .no) Q X := by
  unfold isoP at h
  obtain ⟨S2, e, h⟩ := oP_get h
  obtain ⟨S2', e', s2⟩ := SW.putShut s z e
  rw [e']
  cases w with
  | d x => exact ⟨S2, s2, h⟩
  | ref k =>
    dsimp only at h ⊢
    split at h
    · rename_i hk
      obtain ⟨n, e2, h⟩ := oP_get h
      rw [if_pos hk, e2]
      exact ⟨S2, s2, h⟩
    · rename_i hk
      rw [if_neg hk]
      split at h
      · rename_i xs q
        rw [z.dl q]
        dsimp only
        split at h
        · rename_i hf
          rw [if_pos hf, s2.len]
          exact ⟨_, SW.snoc (a := .dl _) rfl s2, h⟩
        · rename_i hf
          rw [if_neg hf]
          exact ⟨_, s2, h⟩
      · rename_i xs q
        rw [z.dd q]
        dsimp only
        split at h
        · rename_i hf
          rw [if_pos hf, s2.len]
          exact ⟨_, SW.snoc (a := .dd _) rfl s2, h⟩
        · exact h.elim
      · rename_i xs q
        rw [z.mp q]
        dsimp only
        rw [if_pos h.1, s2.len]
        exact ⟨_, SW.snoc (a := .mp _) rfl s2, h.2⟩
      · exact h.elim
theorem run_w {C : KF} {F : Fs} {κ : Nat} (hC : CS C F κ) {fd : Fn} {ws : List W} {S S' : Sto} {t : Nat} {Q : Qv} {X : Xv} (s : SW t S S') (hT : t + nB κ fd.body ≤ T0) (h : wRun C fd ws S Q X) : Sd (t + nB κ fd.body) (fd.run F ws S') Q X := by
  unfold wRun at h
  have z := sB hC fd.body s hT h
  unfold Fn.run
  cases q : exs F (begin_ fd.ns ws) S' fd.body with
  | no => rw [q] at z; exact z.elim
  | exc e S1 => rw [q] at z; obtain ⟨_, _, p⟩ := z; exact p.elim
  | ok f S1 =>
    rw [q] at z
    obtain ⟨S2, s2, p⟩ := z
    cases f with
    | nx τ => exact ⟨S2, s2, p⟩
    | ret w => exact ⟨S2, s2, p⟩
    | brk τ => exact p.elim
    | cnt τ => exact p.elim
    | rs τ e => exact ⟨S2, s2, p⟩
theorem calls_w {G : Tbl} {M : Nat} (hK : Kds G) (hM : capped M G) : ∀ k, CS (wcalls G k) (calls G k) (kap M k)
  | 0 => fun f ws S S' t Q X s hT h => h.elim
  | k + 1 => fun f ws S S' t Q X s hT h => by
    have IH := calls_w hK hM k
    unfold wcalls at h
    obtain ⟨fd, e, hl, h⟩ := oP_get h
    unfold calls
    rw [e]
    dsimp only
    have kp := kap_pos M k
    have hk1 : kap M (k + 1) = kap M k * M + kap M k := by show kap M k * (M + 1) = _; rw [Nat.mul_add, Nat.mul_one]
    have hb := hM (kap M k) kp f fd e
    rw [hk1] at hT ⊢
    split at h
    · rename_i hd
      obtain ⟨h1, h2, h3⟩ := hK.d f fd e hd
      obtain ⟨n, m, rfl, ht, hm, hm2, hq⟩ := wDraw_get h
      obtain ⟨ob, e1, wl⟩ := s.get ht
      obtain ⟨d, w', d1, wl', ec⟩ := h3 (calls G k) n m (t : Int) S' ob e1 wl (by have := kap_pos M k; omega) hm hm2
      rw [ec]
      refine ⟨S, ?_, hq d d1⟩
      have es : S.set n .tok = S := by
        exact List.ext_getElem? fun j => by
          rw [List.getElem?_set]
          split
          · rename_i hj
            subst hj
            split
            · exact ht.symm
            · rename_i hj2
              rw [List.getElem?_eq_none (by omega)] at ht
              cases ht
          · rfl
      have z := SW.set (t := t + 1) (a := .tok) (b := w') (show Wl ((t + 1 : Nat) : Int) w' by rw [Int.natCast_add]; exact wl') (n := n) (s.mono (Nat.le_succ t))
      rw [es] at z
      exact z.mono (by omega)
    · split at h
      · rename_i hd
        obtain ⟨h1, h2, h3⟩ := hK.w f fd e hd
        obtain ⟨ds, i, rfl, ⟨ns, rfl, hn⟩, ⟨i0, i1⟩, hq⟩ := wWell_get h
        obtain ⟨j, rfl⟩ := Int.eq_ofNat_of_zero_le i0
        obtain ⟨w, wl, ec⟩ := h3 (calls G k) ns j S' hn (by omega)
        rw [ec, s.len]
        exact ⟨_, SW.snoc (a := .tok) (show Wl ((t + (kap M k * M + kap M k) : Nat) : Int) w from wl.mono (by omega)) (s.mono (by omega)), hq⟩
      · split at h
        · rename_i hi
          unfold Fn.call
          rw [if_pos hl, if_pos hi]
          unfold wIso at h
          obtain ⟨hd, h⟩ := h
          obtain ⟨obs, eg, h⟩ := oP_get h
          obtain ⟨obs', eg', so⟩ := s.getShut eg
          unfold isoCall
          rw [hd, eg']
          dsimp only
          have z := run_w IH so (by omega) h
          have sm : SW (t + (kap M k * M + kap M k)) S S' := s.mono (by omega)
          cases q : fd.run (calls G k) (isoIn ws 0) obs' with
          | no => rw [q] at z; exact z.elim
          | exc e2 Z' =>
            rw [q] at z
            obtain ⟨Z, sz, p⟩ := z
            obtain ⟨S2, ep, p⟩ := oP_get p
            obtain ⟨S2', ep', s2⟩ := SW.putShut sm (sz.mono (by omega)) ep
            dsimp only
            rw [ep']
            exact ⟨S2, s2, p⟩
          | ok w Z' =>
            rw [q] at z
            obtain ⟨Z, sz, p⟩ := z
            exact iso_back_w sm (sz.mono (by omega)) p
        · rename_i hi
          unfold Fn.call
          rw [if_pos hl, if_neg hi]
          exact (run_w IH s (by omega) h).mono (by omega)
section
variable {κ : Nat} (hκ : 1 ≤ κ)
include hκ
mutual
theorem lE : ∀ e, nE κ e ≤ κ * nE 1 e
  | .var _ => by simp [nE]
  | .c _ => by simp [nE]
  | .op1 _ a => by simp only [nE]; exact lE a
  | .op2 _ a b => by simp only [nE, Nat.mul_add]; have := lE a; have := lE b; omega
  | .opn _ es => by simp only [nE]; exact lEs es
  | .ite t a b => by simp only [nE, Nat.mul_add]; have := lT t; have := lE a; have := lE b; omega
  | .and a b => by simp only [nE, Nat.mul_add]; have := lE a; have := lE b; omega
  | .or a b => by simp only [nE, Nat.mul_add]; have := lE a; have := lE b; omega
  | .not a => by simp only [nE]; exact lE a
  | .chain _ _ a b c => by simp only [nE, Nat.mul_add]; have := lE a; have := lE b; have := lE c; omega
  | .tup es => by simp only [nE]; exact lEs es
  | .lst es => by simp only [nE]; exact lEs es
  | .nlst es => by simp only [nE]; exact lEs es
  | .sub a b => by simp only [nE, Nat.mul_add]; have := lE a; have := lE b; omega
  | .slice a b c => by simp only [nE, Nat.mul_add]; have := lE a; have := lE b; have := lE c; omega
  | .sliceL a b => by simp only [nE, Nat.mul_add]; have := lE a; have := lE b; omega
  | .sliceR a b => by simp only [nE, Nat.mul_add]; have := lE a; have := lE b; omega
  | .sliceN a => by simp only [nE]; exact lE a
  | .call _ es => by simp only [nE, Nat.mul_add]; have := lEs es; omega
  | .callk _ es ks _ => by simp only [nE, Nat.mul_add]; have := lEs es; have := lEs ks; omega
  | .comp _ e tg it t => by
    simp only [nE, Nat.mul_add]
    have h1 := lI it
    have h2 := Nat.mul_le_mul_left sizeLine (lG tg)
    have h3 := Nat.mul_le_mul_left sizeLine (lT t)
    have h4 := Nat.mul_le_mul_left sizeLine (lE e)
    rw [Nat.mul_left_comm] at h2 h3 h4
    omega
  | .compN _ e tg it t => by
    simp only [nE, Nat.mul_add]
    have h1 := lI it
    have h2 := Nat.mul_le_mul_left sizeLine (lG tg)
    have h3 := Nat.mul_le_mul_left sizeLine (lT t)
    have h4 := Nat.mul_le_mul_left sizeLine (lE e)
    rw [Nat.mul_left_comm] at h2 h3 h4
    omega
  | .dcomp _ kx vx tg it t => by
    simp only [nE, Nat.mul_add]
    have h1 := lI it
    have h2 := Nat.mul_le_mul_left sizeLine (lG tg)
    have h3 := Nat.mul_le_mul_left sizeLine (lT t)
    have h4 := Nat.mul_le_mul_left sizeLine (lE kx)
    have h5 := Nat.mul_le_mul_left sizeLine (lE vx)
    rw [Nat.mul_left_comm] at h2 h3 h4 h5
    omega
  | .inD a b => by
    simp only [nE, Nat.mul_add]
    have h1 := lE a
    have h2 := lE b
    omega
  | .dnew => by simp [nE]
  | .dz => by simp [nE]
  | .nbin _ a b => by simp only [nE, Nat.mul_add]; have := lE a; have := lE b; omega
  | .cmpR _ a b => by simp only [nE, Nat.mul_add]; have := lE a; have := lE b; omega
  | .rtup es => by simp only [nE]; exact lEs es
  | .rlst es => by simp only [nE]; exact lEs es
  | .subR a b => by simp only [nE, Nat.mul_add]; have := lE a; have := lE b; omega
  | .dget a b c => by simp only [nE, Nat.mul_add]; have := lE a; have := lE b; have := lE c; omega
  | .dset a b c => by simp only [nE, Nat.mul_add]; have := lE a; have := lE b; have := lE c; omega
  | .dkeys a => by simp only [nE]; exact lE a
  | .dsort a => by simp only [nE]; exact lE a
  | .demp _ a => by simp only [nE]; exact lE a
  | .comp2 _ _ e tg it tg1 it1 t1 => by
    simp only [nE, Nat.mul_add]
    have h1 := lI it
    have h2 := Nat.mul_le_mul_left sizeLine (lG tg)
    have h3 := Nat.mul_le_mul_left sizeLine (lI it1)
    have h4 := Nat.mul_le_mul_left sizeLine (Nat.mul_le_mul_left sizeLine (lG tg1))
    have h5 := Nat.mul_le_mul_left sizeLine (Nat.mul_le_mul_left sizeLine (lT t1))
    have h6 := Nat.mul_le_mul_left sizeLine (Nat.mul_le_mul_left sizeLine (lE e))
    rw [Nat.mul_left_comm] at h2 h3
    rw [Nat.mul_left_comm sizeLine κ, Nat.mul_left_comm sizeLine κ] at h4 h5 h6
    omega
  | .mstr _ o es => by simp only [nE, Nat.mul_add]; have := lE o; have := lEs es; omega
  | .mlst _ _ o es => by simp only [nE, Nat.mul_add]; have := lE o; have := lEs es; omega
  | .len a => by simp only [nE]; exact lE a
  | .frz a => by simp only [nE]; exact lE a
  | .bad => by simp [nE]
theorem lEs : ∀ es, nEs κ es ≤ κ * nEs 1 es
  | .nil => by simp [nEs]
  | .cons e r => by simp only [nEs, Nat.mul_add]; have := lE e; have := lEs r; omega
  | .star e r => by simp only [nEs, Nat.mul_add]; have := lE e; have := lEs r; omega
theorem lT : ∀ t, nT κ t ≤ κ * nT 1 t
  | .tt => by simp [nT]
  | .e x => by simp only [nT]; exact lE x
  | .and a b => by simp only [nT, Nat.mul_add]; have := lT a; have := lT b; omega
  | .or a b => by simp only [nT, Nat.mul_add]; have := lT a; have := lT b; omega
  | .not a => by simp only [nT]; exact lT a
  | .ite a b c => by simp only [nT, Nat.mul_add]; have := lT a; have := lT b; have := lT c; omega
theorem lI : ∀ i, nI κ i ≤ κ * nI 1 i
  | .seq e => by simp only [nI]; exact lE e
  | .rng a b => by simp only [nI, Nat.mul_add]; have := lE a; have := lE b; omega
  | .rng3 a b c => by simp only [nI, Nat.mul_add]; have := lE a; have := lE b; have := lE c; omega
  | .enum e => by simp only [nI]; exact lE e
  | .zip a b => by simp only [nI, Nat.mul_add]; have := lE a; have := lE b; omega
theorem lG : ∀ g, nG κ g ≤ κ * nG 1 g
  | .v _ => by simp [nG]
  | .e => by simp [nG]
  | .t l r => by simp only [nG, Nat.mul_add]; have := lG l; have := lG r; omega
  | .s o i => by simp only [nG, Nat.mul_add]; have := lE o; have := lE i; omega
  | .u _ _ => by simp [nG]
  | .us _ => by simp [nG]
end
mutual
theorem lS : ∀ m, nS κ m ≤ κ * nS 1 m
  | .ex e => by simp only [nS]; exact lE hκ e
  | .asg t e => by simp only [nS, Nat.mul_add]; have := lE hκ e; have := lG hκ t; omega
  | .par _ _ a b => by simp only [nS, Nat.mul_add]; have := lE hκ a; have := lE hκ b; omega
  | .par3 _ _ _ a b c => by simp only [nS, Nat.mul_add]; have := lE hκ a; have := lE hκ b; have := lE hκ c; omega
  | .aug _ _ e => by simp only [nS]; exact lE hκ e
  | .ret e => by simp only [nS]; exact lE hκ e
  | .ifs t a b => by simp only [nS, Nat.mul_add]; have := lT hκ t; have := lB a; have := lB b; omega
  | .fors tg it b => by
    simp only [nS, Nat.mul_add]
    have h1 := lI hκ it
    have h2 := Nat.mul_le_mul_left sizeLine (lG hκ tg)
    have h3 := Nat.mul_le_mul_left sizeLine (lB b)
    rw [Nat.mul_left_comm] at h2 h3
    omega
  | .whl t b => by
    simp only [nS, Nat.mul_add]
    have h2 := Nat.mul_le_mul_left whlMost (lT hκ t)
    have h3 := Nat.mul_le_mul_left whlMost (lB b)
    rw [Nat.mul_left_comm] at h2 h3
    omega
  | .pass => by simp [nS]
  | .brk => by simp [nS]
  | .cnt => by simp [nS]
theorem lB : ∀ b, nB κ b ≤ κ * nB 1 b
  | .nil => by simp [nB]
  | .cons s r => by simp only [nB, Nat.mul_add]; have := lS s; have := lB r; omega
end
end
theorem capped_of {M : Nat} {G : Tbl} (h : ∀ i fd, G i = some fd → nB 1 fd.body ≤ M) : capped M G := fun κ hκ i fd e => Nat.le_trans (lB hκ fd.body) (Nat.mul_le_mul_left κ (h i fd e))
theorem kap_le {M a : Nat} (h : M + 1 ≤ 2 ^ a) : ∀ k, kap M k ≤ 2 ^ (a * k)
  | 0 => by simp [kap]
  | k + 1 => by
    show kap M k * (M + 1) ≤ 2 ^ (a * (k + 1))
    rw [Nat.mul_succ a k, Nat.pow_add]
    exact Nat.mul_le_mul (kap_le h k) h
/-- the law's run -/
theorem law_w {G : Tbl} {M : Nat} (hK : Kds G) (hM : ∀ i fd, G i = some fd → nB 1 fd.body ≤ M) (h2 : M + 1 ≤ 2 ^ 500) {k i : Nat} (hk : k ≤ 150) {ws : List W} (h : wcalls G k i ws [] (fun w _ => w = .d (.bool true)) noX) : ∃ S, calls G k i ws [] = .ok (.d (.bool true)) S := by
  have hT : 0 + kap M k ≤ T0 := by
    rw [Nat.zero_add]
    refine Nat.le_trans (kap_le h2 k) ?_
    have e : ∀ n : Nat, n = 100000 → 2 ^ (500 * k) ≤ 2 ^ n := fun n hn => Nat.pow_le_pow_right (by decide) (by omega)
    exact e _ rfl
  have z := calls_w hK (capped_of hM) k i ws [] [] 0 _ _ trivial hT h
  cases q : calls G k i ws [] with
  | no => rw [q] at z; exact z.elim
  | exc e S => rw [q] at z; obtain ⟨_, _, p⟩ := z; exact p.elim
  | ok w S =>
    rw [q] at z
    obtain ⟨S2, _, rfl⟩ := z
    exact ⟨S, rfl⟩
end Ft
namespace Ft
open PySem PySem.Spec L2
theorem call_one {fd : Fn} {F : Fs} {n : Nat} {x : D} {S : Sto} {ob ob' : Ob} {y : D} (hl : fd.np = 2) (hi : fd.iso = true) (hn : S[n]? = some ob) (hs : ob.shut = true) (hs' : ob'.shut = true)
    (h : fd.run F [.ref 0, .d x] [ob] = .ok (.d y) [ob']) : fd.call F [.ref n, .d x] S = .ok (.d y) (S.set n ob') := by
  unfold Fn.call
  rw [if_pos (by rw [hl]; rfl), if_pos hi]
  unfold isoCall
  have e1 : refsOf [.ref n, .d x] = [n] := rfl
  have e2 : isoIn [.ref n, .d x] 0 = [.ref 0, .d x] := rfl
  rw [e1, e2]
  have e3 : distinct [n] = true := rfl
  have e4 : getShut S [n] = some [ob] := by
    unfold getShut
    rw [hn]
    dsimp only
    rw [if_pos hs]
    rfl
  rw [e3, e4]
  dsimp only
  rw [h]
  dsimp only
  have e5 : putShut S [n] [ob'] = some (S.set n ob') := by
    unfold putShut
    rw [if_pos hs']
    exact putShut_nil
  rw [e5]
theorem call_none {fd : Fn} {F : Fs} {x y : D} {S : Sto} {xs : List D} (hl : fd.np = 2) (hi : fd.iso = true) (hf : fd.fresh = true)
    (h : fd.run F [.d x, .d y] [] = .ok (.ref 0) [.dl xs]) : fd.call F [.d x, .d y] S = .ok (.ref S.length) (S ++ [.dl xs]) := by
  unfold Fn.call
  rw [if_pos (by rw [hl]; rfl), if_pos hi]
  unfold isoCall
  have e1 : refsOf [.d x, .d y] = [] := rfl
  have e2 : isoIn [.d x, .d y] 0 = [.d x, .d y] := rfl
  rw [e1, e2]
  have e3 : distinct [] = true := rfl
  have e4 : getShut S [] = some [] := rfl
  rw [e3, e4]
  dsimp only
  rw [h]
  dsimp only
  rw [putShut_nil]
  dsimp only
  rw [if_neg (show ¬ 0 < ([] : List Nat).length from Nat.not_lt_zero _)]
  dsimp only [List.getElem?_cons_zero]
  rw [if_pos hf]
theorem run_ret {fd : Fn} {F : Fs} {ws : List W} {S S1 : Sto} {w : W} (h : exs F (begin_ fd.ns ws) S fd.body = .ok (.ret w) S1) : fd.run F ws S = .ok w S1 := by
  unfold Fn.run
  rw [h]
theorem drawOk_of {fd : Fn} {c1 c2 c3 c4 c5 md : Int} (hb : fd.body = drawB c1 c2 c3 c4 c5 md) (hns : fd.ns = 4) (hnp : fd.np = 2) (hi : fd.iso = true)
    (k1 : 0 ≤ c1 ∧ c1 < 2 ^ 40) (k2 : 0 < c2 ∧ c2 < 2 ^ 40) (k3 : 0 ≤ c3 ∧ c3 < 2 ^ 40) (k4 : 0 ≤ c4 ∧ c4 < 2 ^ 40) (k5 : 0 < c5 ∧ c5 < 4611686018427387904) (k6 : 0 < md ∧ md < 2 ^ 40) : DrawOk fd := by
  refine ⟨hi, hnp, fun F n m t S w hn hw ht hm hm2 => ?_⟩
  have ht' : ∀ N : Nat, N = 100001 → t + 1 < ((2 ^ N : Nat) : Int) := fun N hN => by
    subst hN
    have e : ∀ N : Nat, N = 100000 → t < ((2 ^ N : Nat) : Int) → t + 1 < ((2 ^ (N + 1) : Nat) : Int) := fun N _ h => by
      rw [Nat.pow_succ]
      have := Nat.two_pow_pos N
      omega
    exact e 100000 rfl ht
  obtain ⟨N, hN⟩ : ∃ N : Nat, N = 100001 := ⟨_, rfl⟩
  have z := draw_run (N := N) (F := F) (w := w) (m := m) (t := t) (Q := fun w S => ∃ (d : Nat) (w' : Ob), w = .d (.int d) ∧ S = [w'] ∧ (d : Int) < m ∧ Wl (t + 1) w') k1 k2 k3 k4 k5 k6 hm (by omega) hw (by omega) (ht' N hN) fun d w' h0 h1 h2 => by
    obtain ⟨e, rfl⟩ := Int.eq_ofNat_of_zero_le h0
    exact ⟨e, w', rfl, rfl, h1, h2⟩
  obtain ⟨f, S1, e, z⟩ := z.ex
  cases f with
  | ret u =>
    obtain ⟨d, w', rfl, rfl, h1, h2⟩ := z
    refine ⟨d, w', h1, h2, call_one hnp hi hn hw.shut h2.shut ?_⟩
    exact run_ret (by rw [hns, hb]; exact e)
  | nx τ => obtain ⟨d, w', q, _⟩ := z; cases q
  | brk τ => exact z.elim
  | cnt τ => exact z.elim
  | rs τ x => exact z.elim
theorem wellOk_of {fd : Fn} {a0 a1 n m1 o1 p1 m2 o2 p2 md pw : Int} {tl : Exs} {ws : List D} (hb : fd.body = wellB a0 a1 n m1 o1 p1 m2 o2 p2 md pw tl) (hns : fd.ns = 5) (hnp : fd.np = 2) (hi : fd.iso = true) (hf : fd.fresh = true)
    (k0 : 0 ≤ a0 ∧ a0 < 2 ^ 40) (k1 : 0 ≤ a1 ∧ a1 < 2 ^ 40) (k2 : 0 ≤ m1 ∧ m1 < 2 ^ 40) (k3 : 0 < o1 ∧ o1 < 2 ^ 40) (k4 : 0 ≤ p1 ∧ p1 < 2 ^ 40) (k5 : 0 ≤ m2 ∧ m2 < 2 ^ 40) (k6 : 0 ≤ o2 ∧ o2 < 2 ^ 40) (k7 : 0 < md ∧ md < 2 ^ 40)
    (k8 : 0 ≤ pw ∧ pw ≤ 1000) (ht : ∀ F τ S, evs F τ S tl = .ok (ws.map W.d) S) (hd : datas (ws.map W.d) = some ws) (hl : ws.length < 100) : WellOk fd := by
  refine ⟨hi, hnp, fun F ns i S hn hi2 => ?_⟩
  have z := well_run (p2 := p2) (F := F) (ns := ns) (i := i) (tl := tl) (ws := ws) k0 k1 k2 k3 k4 k5 k6 k7 k8 hi2 (ht F) hd hl (n := n)
  obtain ⟨f, S1, e, w, rfl, rfl, wl⟩ := z.ex
  obtain ⟨a, b, c, tl2, rfl, h1⟩ := id wl
  refine ⟨_, wl, call_none hnp hi hf ?_⟩
  exact run_ret (by rw [hns, hb]; exact e)
end Ft
namespace Ft
open PySem PySem.Spec L2
section
variable {C : KF} {τ : Lo} {S : Sto} {X : Xv} {Q : Qv}
theorem wE_var {i} : wE C τ S X (.var i) Q = oP (getL τ i) fun w => Q w S := by simp only [wE]
theorem wE_c {x} : wE C τ S X (.c x) Q = Q (.d x) S := by simp only [wE]
theorem wE_op1 {g a} : wE C τ S X (.op1 g a) Q = wE C τ S X a fun w S1 => dP w fun x => oP (g x) fun z => Q (.d z) S1 := by simp only [wE]
theorem wE_op2 {g a b} : wE C τ S X (.op2 g a b) Q = wE C τ S X a fun w S1 => wE C τ S1 X b fun u S2 => dP w fun x => dP u fun y => oP (g x y) fun z => Q (.d z) S2 := by simp only [wE]
theorem wE_opn {g es} : wE C τ S X (.opn g es) Q = wEs C τ S X es fun ws S1 => oP (datas ws) fun xs => oP (g xs) fun z => Q (.d z) S1 := by simp only [wE]
theorem wE_ite {t a b} : wE C τ S X (.ite t a b) Q = wT C τ S X t fun c S1 => if c = true then wE C τ S1 X a Q else wE C τ S1 X b Q := by simp only [wE]
theorem wE_and {a b} : wE C τ S X (.and a b) Q = wE C τ S X a fun w S1 => oP (wTruth w S1) fun c => if c = true then wE C τ S1 X b Q else Q w S1 := by simp only [wE]
theorem wE_or {a b} : wE C τ S X (.or a b) Q = wE C τ S X a fun w S1 => oP (wTruth w S1) fun c => if c = true then Q w S1 else wE C τ S1 X b Q := by simp only [wE]
theorem wE_not {a} : wE C τ S X (.not a) Q = wE C τ S X a fun w S1 => oP (wTruth w S1) fun c => Q (.d (.bool (!c))) S1 := by simp only [wE]
theorem wE_chain {g h a b c} : wE C τ S X (.chain g h a b c) Q = wE C τ S X a fun w S1 => wE C τ S1 X b fun u S2 => dP w fun x => dP u fun y => boolP (g x y) (wE C τ S2 X c fun v S3 => dP v fun z => oP (h y z) fun r => Q (.d r) S3) (Q (.d (.bool false)) S2) := by simp only [wE]
theorem wE_tup {es} : wE C τ S X (.tup es) Q = wEs C τ S X es fun ws S1 => oP (datas ws) fun xs => xs.length ≤ sizeLine ∧ Q (.d (.tuple xs)) S1 := by simp only [wE]
theorem wE_lst {es} : wE C τ S X (.lst es) Q = wEs C τ S X es fun ws S1 => oP (datas ws) fun xs => xs.length ≤ sizeLine ∧ Q (.d (.list xs)) S1 := by simp only [wE]
theorem wE_nlst {es} : wE C τ S X (.nlst es) Q = wEs C τ S X es fun ws S1 => oP (datas ws) fun xs => xs.length ≤ sizeLine ∧ Q (.ref S1.length) (S1 ++ [.dl xs]) := by simp only [wE]
theorem wE_sub {a i} : wE C τ S X (.sub a i) Q = wE C τ S X a fun w S1 => wE C τ S1 X i fun u S2 => oP (asData S2 w) fun x => dP u fun y => oP (dSub x y) fun z => Q (.d z) S2 := by simp only [wE]
theorem wE_slice {a lo hi} : wE C τ S X (.slice a lo hi) Q = wE C τ S X a fun w S1 => wE C τ S1 X lo fun u S2 => oP (part u) fun l => wE C τ S2 X hi fun v S3 => oP (asData S3 w) fun x => oP (part v) fun h => oP (dSlice x (some l) (some h)) fun z => Q (.d z) S3 := by simp only [wE]
theorem wE_sliceL {a lo} : wE C τ S X (.sliceL a lo) Q = wE C τ S X a fun w S1 => wE C τ S1 X lo fun u S2 => oP (asData S2 w) fun x => oP (part u) fun l => oP (dSlice x (some l) none) fun z => Q (.d z) S2 := by simp only [wE]
theorem wE_sliceR {a hi} : wE C τ S X (.sliceR a hi) Q = wE C τ S X a fun w S1 => wE C τ S1 X hi fun u S2 => oP (asData S2 w) fun x => oP (part u) fun h => oP (dSlice x none (some h)) fun z => Q (.d z) S2 := by simp only [wE]
theorem wE_sliceN {a} : wE C τ S X (.sliceN a) Q = wE C τ S X a fun w S1 => oP (asData S1 w) fun x => oP (dSlice x none none) fun z => Q (.d z) S1 := by simp only [wE]
theorem wE_call {f es} : wE C τ S X (.call f es) Q = wEs C τ S X es fun ws S1 => C f ws S1 Q X := by simp only [wE]
theorem wE_callk {f es ks perm} : wE C τ S X (.callk f es ks perm) Q = wEs C τ S X es fun ws S1 => wEs C τ S1 X ks fun wk S2 => oP (pickx (ws ++ wk) perm) fun us => C f us S2 Q X := by simp only [wE]
/-- a comprehension's turn -/
def cTurn (C : KF) (τ : Lo) (vs : List Nat) (e : Ex) (tg : Tg) (t : Te) (x : D) (S' : Sto) (K : Option D → Sto → Prop) : Prop := wP C (wip τ vs) S' tg (.d x) fun τ' S0 => wT C τ' S0 noX t fun b S2 => if b = true then wE C τ' S2 noX e (fun w S3 => dP w fun y => K (some y) S3) else K none S2
theorem wE_comp {vs e tg it t} : wE C τ S X (.comp vs e tg it t) Q = wI C τ S X it fun xs S1 => xs.length ≤ sizeLine ∧ wComp (cTurn C τ vs e tg t) xs S1 fun ys S2 => Q (.d (.list ys)) S2 := by simp only [wE] <;> rfl
theorem wE_compN {vs e tg it t} : wE C τ S X (.compN vs e tg it t) Q = wI C τ S X it fun xs S1 => xs.length ≤ sizeLine ∧ wComp (cTurn C τ vs e tg t) xs S1 fun ys S2 => Q (.ref S2.length) (S2 ++ [.dl ys]) := by simp only [wE] <;> rfl
/-- a comprehension of two sources: an outer turn -/
def dTurn (C : KF) (τ : Lo) (vs : List Nat) (kx vx : Ex) (tg : Tg) (t : Te) (x : D) (S' : Sto) (K : Option D → Sto → Prop) : Prop := wP C (wip τ vs) S' tg (.d x) fun τ' S0 => wT C τ' S0 noX t fun b S2 => if b = true then wE C τ' S2 noX kx (fun w S3 => wE C τ' S3 noX vx fun u S4 => oP (pairW w u) fun z => dP z fun y => K (some y) S4) else K none S2
theorem wE_dcomp {vs kx vx tg it t} : wE C τ S X (.dcomp vs kx vx tg it t) Q = wI C τ S X it fun xs S1 => xs.length ≤ sizeLine ∧ wComp (dTurn C τ vs kx vx tg t) xs S1 fun ys S2 => oP (dictOf [] ys) fun kvs => Q (.ref S2.length) (S2 ++ [.dd kvs]) := by simp only [wE] <;> rfl
theorem wE_dz : wE C τ S X .dz Q = Q (.d (.dict [])) S := by simp only [wE]
theorem wE_dnew : wE C τ S X .dnew Q = Q (.ref S.length) (S ++ [.mp []]) := by simp only [wE]
theorem wE_nbin {g a b} : wE C τ S X (.nbin g a b) Q = wE C τ S X a fun w S1 => wE C τ S1 X b fun u S2 => dP w fun x => dP u fun y => oP (g x y) fun z => lsP z fun zs => zs.length ≤ sizeLine ∧ Q (.ref S2.length) (S2 ++ [.dl zs]) := by simp only [wE]
theorem wE_cmpR {g a b} : wE C τ S X (.cmpR g a b) Q = wE C τ S X a fun w S1 => wE C τ S1 X b fun u S2 => oP (asData S2 w) fun x => oP (asData S2 u) fun y => oP (g x y) fun z => Q (.d z) S2 := by simp only [wE]
theorem wE_rtup {es} : wE C τ S X (.rtup es) Q = wEs C τ S X es fun ws S1 => ws.length ≤ sizeLine ∧ Q (.ref S1.length) (S1 ++ [.rt ws]) := by simp only [wE]
theorem wE_rlst {es} : wE C τ S X (.rlst es) Q = wEs C τ S X es fun ws S1 => ws.length ≤ sizeLine ∧ Q (.ref S1.length) (S1 ++ [.rl ws]) := by simp only [wE]
theorem wE_subR {a i} : wE C τ S X (.subR a i) Q = wE C τ S X a fun w S1 => wE C τ S1 X i fun u S2 => subP S2 w u fun z => Q z S2 := by simp only [wE]
theorem wE_dget {a k x} : wE C τ S X (.dget a k x) Q = wE C τ S X a fun w S1 => mpP S1 w fun _ _ => wE C τ S1 X k fun u S2 => wE C τ S2 X x fun v S3 => mpP S3 w fun _ kvs => dP u fun y => oP (keyM y) fun k => okM kvs k = true ∧ Q ((atM kvs k).getD v) S3 := by simp only [wE]
theorem wE_dset {a k x} : wE C τ S X (.dset a k x) Q = wE C τ S X a fun w S1 => mpP S1 w fun _ _ => wE C τ S1 X k fun u S2 => wE C τ S2 X x fun v S3 => mpP S3 w fun n kvs => dP u fun y => oP (keyM y) fun k => okM kvs k = true ∧ dsP S3 n kvs k v Q := by simp only [wE]
theorem wE_dkeys {a} : wE C τ S X (.dkeys a) Q = wE C τ S X a fun w S1 => mpP S1 w fun _ kvs => kvs.length ≤ sizeLine ∧ Q (.d (.list (kvs.map fun kv => kv.1.data))) S1 := by simp only [wE]
theorem wE_dsort {a} : wE C τ S X (.dsort a) Q = wE C τ S X a fun w S1 => mpP S1 w fun _ kvs => oP (sortM kvs) fun xs => Q (.d (.list xs)) S1 := by simp only [wE]
theorem wE_demp {b a} : wE C τ S X (.demp b a) Q = wE C τ S X a fun w S1 => mpP S1 w fun _ kvs => Q (.d (.bool (kvs.isEmpty == b))) S1 := by simp only [wE]
theorem wE_inD {a b} : wE C τ S X (.inD a b) Q = wE C τ S X a fun w S1 => wE C τ S1 X b fun u S2 => oP (hasD S2 w u) fun c => Q (.d (.bool c)) S2 := by simp only [wE]
def c2Turn (C : KF) (τ : Lo) (vs vs1 : List Nat) (e : Ex) (tg tg1 : Tg) (it1 : Ie) (t1 : Te) (x : D) (S' : Sto) (K : List D → Sto → Prop) : Prop := wP C (wip τ vs) S' tg (.d x) fun τ' S0 => wI C τ' S0 noX it1 fun ys S2 => ys.length ≤ sizeLine ∧ wComp (cTurn C τ' vs1 e tg1 t1) ys S2 K
theorem wE_comp2 {vs vs1 e tg it tg1 it1 t1} : wE C τ S X (.comp2 vs vs1 e tg it tg1 it1 t1) Q = wI C τ S X it fun xs S1 => xs.length ≤ sizeLine ∧ wComp2 (c2Turn C τ vs vs1 e tg tg1 it1 t1) xs S1 fun ys S2 => ys.length ≤ sizeLine ∧ Q (.d (.list ys)) S2 := by simp only [wE] <;> rfl
theorem wE_mstr {g o es} : wE C τ S X (.mstr g o es) Q = wE C τ S X o fun w S1 => strP w fun s => wEs C τ S1 X es fun ws S2 => oP (datas ws) fun xs => oP (g s xs) fun z => Q (.d z) S2 := by simp only [wE]
theorem wE_mlst {gd gs o es} : wE C τ S X (.mlst gd gs o es) Q = wE C τ S X o fun w S1 => mlP gd gs w S1 (wEs C τ S1 X es) Q := by simp only [wE]
theorem wE_len {a} : wE C τ S X (.len a) Q = wE C τ S X a fun w S1 => lenP (asData S1 w) fun n => Q (.d (.int n)) S1 := by simp only [wE]
theorem wE_frz {a} : wE C τ S X (.frz a) Q = wE C τ S X a fun w S1 => frzP w S1 Q := by simp only [wE]
theorem wEs_nil {Q : List W → Sto → Prop} : wEs C τ S X .nil Q = Q [] S := by simp only [wEs]
theorem wEs_cons {e r} {Q : List W → Sto → Prop} : wEs C τ S X (.cons e r) Q = wE C τ S X e fun w S1 => wEs C τ S1 X r fun ws S2 => Q (w :: ws) S2 := by simp only [wEs]
theorem wEs_star {e r} {Q : List W → Sto → Prop} : wEs C τ S X (.star e r) Q = wE C τ S X e fun w S1 => dP w fun x => oP (dSeq x) fun xs => wEs C τ S1 X r fun ws S2 => Q (xs.map W.d ++ ws) S2 := by simp only [wEs]
theorem wT_tt {Q : Bool → Sto → Prop} : wT C τ S X .tt Q = Q true S := by simp only [wT]
theorem wT_e {x} {Q : Bool → Sto → Prop} : wT C τ S X (.e x) Q = wE C τ S X x fun w S1 => oP (wTruth w S1) fun c => Q c S1 := by simp only [wT]
theorem wT_and {a b} {Q : Bool → Sto → Prop} : wT C τ S X (.and a b) Q = wT C τ S X a fun c S1 => if c = true then wT C τ S1 X b Q else Q false S1 := by simp only [wT]
theorem wT_or {a b} {Q : Bool → Sto → Prop} : wT C τ S X (.or a b) Q = wT C τ S X a fun c S1 => if c = true then Q true S1 else wT C τ S1 X b Q := by simp only [wT]
theorem wT_not {a} {Q : Bool → Sto → Prop} : wT C τ S X (.not a) Q = wT C τ S X a fun c S1 => Q (!c) S1 := by simp only [wT]
theorem wT_ite {c a b} {Q : Bool → Sto → Prop} : wT C τ S X (.ite c a b) Q = wT C τ S X c fun x S1 => if x = true then wT C τ S1 X a Q else wT C τ S1 X b Q := by simp only [wT]
theorem wI_seq {e} {Q : List D → Sto → Prop} : wI C τ S X (.seq e) Q = wE C τ S X e fun w S1 => dP w fun x => oP (dItems x) fun xs => Q xs S1 := by simp only [wI]
/-- a range's ends are small -/
def rngOk (i j : Int) : Prop := -(2 ^ 62) ≤ i ∧ i < 2 ^ 62 ∧ -(2 ^ 62) ≤ j ∧ j < 2 ^ 62
theorem wI_rng {a b} {Q : List D → Sto → Prop} : wI C τ S X (.rng a b) Q = wE C τ S X a fun w S1 => wE C τ S1 X b fun u S2 => intP w fun i => intP u fun j => rngOk i j ∧ Q (rngItems i j) S2 := by simp only [wI] <;> rfl
def rng3Ok (i j k : Int) : Prop := k ≠ 0 ∧ k.natAbs < 1073741824 ∧ Builtin.Range.small i j k = true ∧ 0 ≤ Builtin.Range.rangeSize i j k
theorem wI_rng3 {a b c} {Q : List D → Sto → Prop} : wI C τ S X (.rng3 a b c) Q = wE C τ S X a fun w S1 => wE C τ S1 X b fun u S2 => wE C τ S2 X c fun v S3 => intP w fun i => intP u fun j => intP v fun k => rng3Ok i j k ∧ Q (rngItems3 i j k) S3 := by simp only [wI] <;> rfl
theorem wI_enum {e} {Q : List D → Sto → Prop} : wI C τ S X (.enum e) Q = wE C τ S X e fun w S1 => dP w fun x => oP (dSeq x) fun xs => Q (enumItems xs 0) S1 := by simp only [wI]
theorem wI_zip {a b} {Q : List D → Sto → Prop} : wI C τ S X (.zip a b) Q = wE C τ S X a fun w S1 => wE C τ S1 X b fun u S2 => zipP w u fun xs => Q xs S2 := by simp only [wI]
theorem wP_v {i w} {K : Lo → Sto → Prop} : wP C τ S (.v i) w K = K (τ.set i (some w)) S := by simp only [wP]
theorem wP_e {w} {K : Lo → Sto → Prop} : wP C τ S .e w K = tupP w (fun _ _ => False) (K τ S) := by simp only [wP]
theorem wP_t {l r w} {K : Lo → Sto → Prop} : wP C τ S (.t l r) w K = tupP w (fun y ys => wP C τ S l (.d y) fun τ1 S1 => wP C τ1 S1 r (.d (.tuple ys)) K) False := by simp only [wP]
theorem wP_s {o i w} {K : Lo → Sto → Prop} : wP C τ S (.s o i) w K = wE C τ S noX o fun p S1 => wE C τ S1 noX i fun q S2 => putP p q w S2 fun S3 => K τ S3 := by simp only [wP]
variable {R : Rv}
theorem wS_ex {e} : wS C τ S (.ex e) R = wE C τ S (fun e S1 => R (.rs τ e) S1) e fun _ S1 => R (.nx τ) S1 := by simp only [wS]
theorem wS_asg {t e} : wS C τ S (.asg t e) R = wE C τ S (fun e S1 => R (.rs τ e) S1) e fun w S1 => wP C τ S1 t w fun τ1 S2 => R (.nx τ1) S2 := by simp only [wS]
theorem wS_par {i j a b} : wS C τ S (.par i j a b) R = wE C τ S (fun e S1 => R (.rs τ e) S1) a fun w S1 => wE C τ S1 (fun e S1 => R (.rs τ e) S1) b fun u S2 => R (.nx ((τ.set i (some w)).set j (some u))) S2 := by simp only [wS]
theorem wS_par3 {i j l a b c} : wS C τ S (.par3 i j l a b c) R = wE C τ S (fun e S1 => R (.rs τ e) S1) a fun w S1 => wE C τ S1 (fun e S1 => R (.rs τ e) S1) b fun u S2 => wE C τ S2 (fun e S1 => R (.rs τ e) S1) c fun v S3 => R (.nx (((τ.set i (some w)).set j (some u)).set l (some v))) S3 := by simp only [wS]
theorem wS_aug {i g e} : wS C τ S (.aug i g e) R = oP (getL τ i) fun z => dP z fun x => wE C τ S (fun e S1 => R (.rs τ e) S1) e fun w S1 => dP w fun y => oP (g x y) fun z => R (.nx (τ.set i (some (.d z)))) S1 := by simp only [wS]
theorem wS_ret {e} : wS C τ S (.ret e) R = wE C τ S (fun e S1 => R (.rs τ e) S1) e fun w S1 => R (.ret w) S1 := by simp only [wS]
theorem wS_ifs {t a b} : wS C τ S (.ifs t a b) R = wT C τ S (fun e S1 => R (.rs τ e) S1) t fun c S1 => if c = true then wB C τ S1 a R else wB C τ S1 b R := by simp only [wS]
/-- a for's turn -/
def fTurn (C : KF) (tg : Tg) (b : Bk) (x : D) (τ : Lo) (S : Sto) (K : Rv) : Prop := wP C τ S tg (.d x) fun τ1 S1 => wB C τ1 S1 b K
theorem wS_fors {tg it b} : wS C τ S (.fors tg it b) R = wI C τ S (fun e S1 => R (.rs τ e) S1) it fun xs S1 => xs.length ≤ sizeLine ∧ wFor (fTurn C tg b) xs τ S1 R := by simp only [wS] <;> rfl
theorem wS_whl {t b} : wS C τ S (.whl t b) R = wWhl (fun τ S X Q => wT C τ S X t Q) (fun τ S K => wB C τ S b K) whlMost τ S R := by simp only [wS]
theorem wS_pass : wS C τ S .pass R = R (.nx τ) S := by simp only [wS]
theorem wS_brk : wS C τ S .brk R = R (.brk τ) S := by simp only [wS]
theorem wS_cnt : wS C τ S .cnt R = R (.cnt τ) S := by simp only [wS]
theorem wB_nil : wB C τ S .nil R = R (.nx τ) S := by simp only [wB]
/-- what follows -/
def thenB (C : KF) (r : Bk) (R : Rv) : Rv := fun f S1 => match f with
  | .nx τ1 => wB C τ1 S1 r R
  | f => R f S1
theorem wB_cons {s r} : wB C τ S (.cons s r) R = wS C τ S s (thenB C r R) := by simp only [wB] <;> rfl
theorem thenB_nx {r} : thenB C r R (.nx τ) S = wB C τ S r R := rfl
theorem thenB_ret {r w} : thenB C r R (.ret w) S = R (.ret w) S := rfl
theorem thenB_rs {r e} : thenB C r R (.rs τ e) S = R (.rs τ e) S := rfl
theorem thenB_brk {r} : thenB C r R (.brk τ) S = R (.brk τ) S := rfl
theorem thenB_cnt {r} : thenB C r R (.cnt τ) S = R (.cnt τ) S := rfl
theorem runP_ret {w} : runP Q X (.ret w) S = Q w S := rfl
theorem runP_nx : runP Q X (.nx τ) S = Q (.d .none) S := rfl
theorem runP_rs {e} : runP Q X (.rs τ e) S = X e S := rfl
end
theorem getL_0 {w : W} {r : Lo} : getL (some w :: r) 0 = some w := rfl
theorem getL_s {o : Option W} {r : Lo} {i : Nat} : getL (o :: r) (i + 1) = getL r i := rfl
theorem set_0 {o w : Option W} {r : Lo} : (o :: r).set 0 w = w :: r := rfl
theorem set_s {o w : Option W} {r : Lo} {i : Nat} : (o :: r).set (i + 1) w = o :: r.set i w := rfl
theorem sset_0 {o w : Ob} {r : Sto} : (o :: r).set 0 w = w :: r := rfl
theorem sset_s {o w : Ob} {r : Sto} {i : Nat} : (o :: r).set (i + 1) w = o :: r.set i w := rfl
theorem sget_0 {o : Ob} {r : Sto} : (o :: r)[0]? = some o := rfl
theorem sget_s {o : Ob} {r : Sto} {i : Nat} : (o :: r)[i + 1]? = r[i]? := by simp
theorem asData_d {S : Sto} {x : D} : asData S (.d x) = some x := rfl
theorem asData_0 {xs : List D} {r : Sto} : asData (.dl xs :: r) (.ref 0) = some (.list xs) := rfl
theorem asData_f {xs : List D} {r : Sto} : asData (.fz xs :: r) (.ref 0) = some (.list xs) := rfl
theorem asData_s {o : Ob} {r : Sto} {i : Nat} : asData (o :: r) (.ref (i + 1)) = asData r (.ref i) := by
  unfold asData
  simp
theorem wP_u {i j w K} : wP C τ S (.u i j) w K = rtP S w fun a b => K ((τ.set i (some a)).set j (some b)) S := by simp only [wP]
theorem wP_us {is w K} : wP C τ S (.us is) w K = rtsP S w fun ws => ws.length = is.length ∧ K (setAll τ is ws) S := by simp only [wP]
theorem rtsP_r {S : Sto} {n : Nat} {f : List W → Prop} : rtsP S (.ref n) f = obP S n fun o => rtsO o f := rfl
theorem rtP_r {S : Sto} {n : Nat} {f : W → W → Prop} : rtP S (.ref n) f = obP S n fun o => rtO o f := rfl
theorem obP_0 {o : Ob} {r : Sto} {f : Ob → Prop} : obP (o :: r) 0 f = f o := rfl
theorem obP_s {o : Ob} {r : Sto} {i : Nat} {f : Ob → Prop} : obP (o :: r) (i + 1) f = obP r i f := by
  unfold obP
  simp
theorem dlP_0 {xs : List D} {r : Sto} {f : List D → Prop} : dlP (.dl xs :: r) 0 f = f xs := rfl
theorem dlP_s {o : Ob} {r : Sto} {i : Nat} {f : List D → Prop} : dlP (o :: r) (i + 1) f = dlP r i f := by
  unfold dlP
  simp
theorem frzP_00 {xs : List D} {r : Sto} {Q : Qv} : frzP (.ref 0) (.dl xs :: r) Q = Q (.d (.list xs)) (.fz xs :: r) := rfl
theorem frzP_ff {xs : List D} {r : Sto} {Q : Qv} : frzP (.ref 0) (.fz xs :: r) Q = Q (.d (.list xs)) (.fz xs :: r) := rfl
theorem frzP_s {o : Ob} {r : Sto} {Q : Qv} {i : Nat} : frzP (.ref (i + 1)) (o :: r) Q = frzP (.ref i) r fun w S1 => Q w (o :: S1) := by
  unfold frzP
  dsimp only
  rw [List.getElem?_cons_succ]
  cases r[i]? with
  | none => rfl
  | some ob => cases ob <;> rfl
theorem isNo_n : isNo .none = true := rfl
theorem isNo_i {i : Int} : isNo (.int i) = false := rfl
theorem isNo_b {b : Bool} : isNo (.bool b) = false := rfl
theorem isNo_s {x : Str} : isNo (.str x) = false := rfl
theorem isNo_t {xs : List D} : isNo (.tuple xs) = false := rfl
theorem isNo_l {xs : List D} : isNo (.list xs) = false := rfl
theorem wTruth_d {x : D} {S : Sto} : wTruth (.d x) S = dTruth x := rfl
theorem dTruth_b {b : Bool} : dTruth (.bool b) = some b := rfl
theorem dTruth_n : dTruth .none = some false := rfl
theorem dTruth_i {i : Int} : dTruth (.int i) = some (i != 0) := rfl
theorem dTruth_t {xs : List D} : dTruth (.tuple xs) = some (!xs.isEmpty) := rfl
theorem dTruth_l {xs : List D} : dTruth (.list xs) = some (!xs.isEmpty) := rfl
theorem part_i {i : Int} : part (.d (.int i)) = some i := rfl
theorem datas_nil : datas [] = some [] := rfl
theorem datas_cons {x : D} {r : List W} : datas (.d x :: r) = (datas r).map (x :: ·) := by
  rw [datas]
  cases datas r <;> rfl
theorem datas_map (xs : List D) : datas (xs.map W.d) = some xs := by
  induction xs with
  | nil => rfl
  | cons x r ih => rw [List.map_cons, datas_cons, ih]; rfl
theorem datas_app (xs : List D) (r : List W) : datas (xs.map W.d ++ r) = (datas r).map (xs ++ ·) := by
  induction xs with
  | nil => simp
  | cons x q ih => rw [List.map_cons, List.cons_append, datas_cons, ih]; cases datas r <;> rfl
theorem omap_s {α β : Type} {a : α} {f : α → β} : (some a).map f = some (f a) := rfl
theorem pick_nil {ws : List W} : pick ws [] = some [] := rfl
section
variable {f : D → Prop} {i j : Int} {x y : Str} {xs ys : List D} {a b : Prop}
theorem o_add : oP (dAdd (.int i) (.int j)) f = f (.int (i + j)) := rfl
theorem o_add_s : oP (dAdd (.str x) (.str y)) f = (x.length + y.length ≤ sizeLine ∧ f (.str (x ++ y))) := by
  unfold dAdd
  by_cases h : x.length + y.length ≤ sizeLine <;> simp [h, oP]
theorem o_add_t : oP (dAdd (.tuple xs) (.tuple ys)) f = (xs.length + ys.length ≤ sizeLine ∧ f (.tuple (xs ++ ys))) := by
  unfold dAdd
  by_cases h : xs.length + ys.length ≤ sizeLine <;> simp [h, oP]
theorem o_add_l : oP (dAdd (.list xs) (.list ys)) f = (xs.length + ys.length ≤ sizeLine ∧ f (.list (xs ++ ys))) := by
  unfold dAdd
  by_cases h : xs.length + ys.length ≤ sizeLine <;> simp [h, oP]
theorem o_sub : oP (dSub' (.int i) (.int j)) f = f (.int (i - j)) := rfl
theorem o_mul : oP (dMul' (.int i) (.int j)) f = (mulOk i j = true ∧ f (.int (i * j))) := by
  unfold dMul'
  by_cases h : mulOk i j = true <;> simp [h, oP]
def repOk (xs : List D) (k : Int) : Prop := xs.length ≤ 1000 ∧ xs ≠ [] ∧ 2 ≤ k ∧ k ≤ 1000
theorem o_mul_t : oP (dMul' (.tuple xs) (.int j)) f = (repOk xs j ∧ f (.tuple (repD xs j.toNat))) := by
  unfold dMul' repOk
  by_cases h : xs.length ≤ 1000 ∧ xs ≠ [] ∧ 2 ≤ j ∧ j ≤ 1000 <;> simp [h, oP]
def divOk (j : Int) : Prop := 0 < j ∧ j < 4611686018427387904
theorem o_div : oP (dDiv (.int i) (.int j)) f = (divOk j ∧ f (.int (i / j))) := by
  unfold dDiv divOk
  by_cases h : 0 < j ∧ j < 4611686018427387904 <;> simp [h, oP]
theorem o_mod : oP (dMod (.int i) (.int j)) f = (0 < j ∧ f (.int (i % j))) := by
  unfold dMod
  by_cases h : 0 < j <;> simp [h, oP]
def shlOk (i j : Int) : Prop := 0 ≤ j ∧ (Builtin.Int.intBits i : Int) + j ≤ 2 ^ 27
theorem o_shl : oP (dShl (.int i) (.int j)) f = (shlOk i j ∧ f (.int (i * 2 ^ j.toNat))) := by
  have e : ∀ c : Prop, [Decidable c] → oP (if c then some (PyData.int (i * 2 ^ j.toNat)) else none) f = (c ∧ f (.int (i * 2 ^ j.toNat))) := fun c _ => by
    by_cases h : c <;> simp [h, oP]
  exact e _
theorem o_shr : oP (dShr (.int i) (.int j)) f = (0 ≤ j ∧ f (.int (i / 2 ^ j.toNat))) := by
  unfold dShr
  by_cases h : 0 ≤ j <;> simp [h, oP]
theorem o_and : oP (dAnd (.int i) (.int j)) f = f (.int (Builtin.bitAnd i j)) := rfl
theorem o_or : oP (dOr (.int i) (.int j)) f = f (.int (Builtin.bitOr i j)) := rfl
theorem o_xor : oP (dXor (.int i) (.int j)) f = f (.int (Builtin.bitXor i j)) := rfl
theorem o_neg : oP (dNeg (.int i)) f = f (.int (-i)) := rfl
theorem o_eq : oP (dEq (.int i) (.int j)) f = f (.bool (decide (i = j))) := rfl
theorem o_ne : oP (dNe (.int i) (.int j)) f = f (.bool (!decide (i = j))) := rfl
theorem o_eq_s : oP (dEq (.str x) (.str y)) f = f (.bool (decide (x = y))) := rfl
theorem o_ne_s : oP (dNe (.str x) (.str y)) f = f (.bool (!decide (x = y))) := rfl
theorem o_lt : oP (dLt (.int i) (.int j)) f = f (.bool (decide (i < j))) := rfl
theorem o_le : oP (dLe (.int i) (.int j)) f = f (.bool (decide (i ≤ j))) := rfl
theorem o_gt : oP (dGt (.int i) (.int j)) f = f (.bool (decide (j < i))) := rfl
theorem o_ge : oP (dGe (.int i) (.int j)) f = f (.bool (decide (j ≤ i))) := rfl
theorem o_is {d : D} : oP (dIs d .none) f = f (.bool (isNo d)) := by cases d <;> rfl
theorem o_isn {d : D} : oP (dIsNot d .none) f = f (.bool (!isNo d)) := by cases d <;> rfl
theorem o_is_b {c d : Bool} : oP (dIs (.bool c) (.bool d)) f = f (.bool (decide (c = d))) := rfl
theorem o_isn_b {c d : Bool} : oP (dIsNot (.bool c) (.bool d)) f = f (.bool (!decide (c = d))) := rfl
theorem o_abs : oP (cAbs [.int i]) f = f (.int (i.natAbs : Int)) := rfl
theorem o_max : oP (cMax [.int i, .int j]) f = f (.int (max i j)) := rfl
theorem o_min : oP (cMin [.int i, .int j]) f = f (.int (min i j)) := rfl
theorem o_int : oP (cInt [.int i]) f = f (.int i) := rfl
theorem o_tuple_l : oP (cTuple [.list xs]) f = f (.tuple xs) := rfl
theorem o_tuple_t : oP (cTuple [.tuple xs]) f = f (.tuple xs) := rfl
theorem o_list_l : oP (cList [.list xs]) f = f (.list xs) := rfl
theorem o_list_t : oP (cList [.tuple xs]) f = f (.list xs) := rfl
theorem o_any {bs : List Bool} : oP (cAny [.list (bs.map PyData.bool)]) f = f (.bool (bs.any id)) := by
  unfold cAny
  simp [oP]
theorem o_all {bs : List Bool} : oP (cAll [.list (bs.map PyData.bool)]) f = f (.bool (bs.all id)) := by
  unfold cAll
  simp [oP]
theorem o_sum {bs : List Int} : oP (cSum [.list (bs.map PyData.int)]) f = f (.int bs.sum) := by
  unfold cSum
  simp [oP]
theorem o_divmod : oP (cDivmod [.int i, .int j]) f = (divOk j ∧ f (.tuple [.int (i / j), .int (i % j)])) := by
  unfold cDivmod divOk
  by_cases h : 0 < j ∧ j < 4611686018427387904 <;> simp [h, oP]
def repLOk (n : Nat) (i : Int) : Prop := -(2 ^ 63) ≤ i ∧ i < 2 ^ 63 ∧ n * i.toNat ≤ sizeLine
def reprOk (d : D) : Prop := tells d = true ∧ d.depth ≤ 60 ∧ shB d ≤ sizeLine
theorem o_repr {d : D} : oP (cRepr [d]) f = (reprOk d ∧ f (.str d.shown)) := by
  unfold cRepr reprOk
  by_cases h : tells d = true ∧ d.depth ≤ 60 ∧ shB d ≤ sizeLine <;> simp [h, oP]
theorem o_isi {T : Ty} {d : D} : oP (isiD T d) f = f (.bool (T.of d)) := rfl
theorem o_rep : oP (dMul' (.list xs) (.int i)) f = (repLOk xs.length i ∧ f (.list (repD xs i.toNat))) := by
  show oP (if -(2 ^ 63) ≤ i ∧ i < 2 ^ 63 ∧ xs.length * i.toNat ≤ sizeLine then some (PyData.list (repD xs i.toNat)) else none) f = _
  by_cases h : -(2 ^ 63) ≤ i ∧ i < 2 ^ 63 ∧ xs.length * i.toNat ≤ sizeLine
  · rw [if_pos h]
    exact propext ⟨fun z => ⟨h, z⟩, fun z => z.2⟩
  · rw [if_neg h]
    exact propext ⟨fun z => z.elim, fun z => (h z.1).elim⟩
theorem o_find : oP (gFind x [.str y]) f = f (.int (Txt.find x y)) := rfl
theorem o_sindex : oP (gSIndex x [.str y]) f = oP (firstOf x y) fun i => f (dn i) := by
  show oP ((firstOf x y).map fun (i : Nat) => PyData.int (i : Int)) f = _
  cases firstOf x y <;> rfl
theorem o_join {ys : List Str} : oP (gJoin x [.list (ys.map .str)]) f = (joinOk x ys = true ∧ f (.str (Txt.join x ys))) := by
  show oP ((strsOf (ys.map PyData.str)).bind fun ys => if joinOk x ys = true then some (PyData.str (Txt.join x ys)) else none) f = _
  rw [strsOf_map]
  show oP (if joinOk x ys = true then some (PyData.str (Txt.join x ys)) else none) f = _
  by_cases h : joinOk x ys = true <;> simp [h, oP]
theorem o_joinT {ys : List Str} : oP (gJoin x [.tuple (ys.map .str)]) f = (joinOk x ys = true ∧ f (.str (Txt.join x ys))) := by
  show oP ((strsOf (ys.map PyData.str)).bind fun ys => if joinOk x ys = true then some (PyData.str (Txt.join x ys)) else none) f = _
  rw [strsOf_map]
  show oP (if joinOk x ys = true then some (PyData.str (Txt.join x ys)) else none) f = _
  by_cases h : joinOk x ys = true <;> simp [h, oP]
theorem o_tindex {z : Str} {zs : List D} : oP (cTIndex [.tuple zs, .str z]) f = oP (strsOf zs) fun ys => oP (ys.findIdx? fun y => y == z) fun j => f (dn j) := by
  show oP ((strsOf zs).bind fun ys => (ys.findIdx? fun y => y == z).map fun (j : Nat) => PyData.int (j : Int)) f = _
  cases strsOf zs with
  | none => rfl
  | some ys =>
    show oP ((ys.findIdx? fun y => y == z).map fun (j : Nat) => PyData.int (j : Int)) f = oP (ys.findIdx? fun y => y == z) fun j => f (dn j)
    cases ys.findIdx? fun y => y == z <;> rfl
theorem o_lindex {d : D} : oP (gIndex xs [d]) f = (SeqAt.shaped (.list xs) = true ∧ SeqAt.shaped d = true ∧ oP (eqAtD xs d) fun j => f (dn j)) := by
  show oP (if SeqAt.shaped (.list xs) = true ∧ SeqAt.shaped d = true then (eqAtD xs d).map fun (j : Nat) => PyData.int (j : Int) else none) f = _
  by_cases h : SeqAt.shaped (.list xs) = true ∧ SeqAt.shaped d = true
  · rw [if_pos h]
    simp only [h.1, h.2, true_and]
    cases eqAtD xs d <;> rfl
  · rw [if_neg h]
    apply propext
    constructor
    · intro z; exact z.elim
    · intro z; exact (h ⟨z.1, z.2.1⟩).elim
theorem o_in_t {d : D} : oP (dIn d (.tuple xs)) f = (SeqAt.shaped d = true ∧ SeqAt.shaped (.tuple xs) = true ∧ f (.bool (xs.any fun z => PyData.eqv z d))) := by
  have e : dIn d (.tuple xs) = if SeqAt.shaped d = true ∧ SeqAt.shaped (.tuple xs) = true then some (PyData.bool (xs.any fun z => PyData.eqv z d)) else none := by cases d <;> rfl
  rw [e]
  by_cases h : SeqAt.shaped d = true ∧ SeqAt.shaped (.tuple xs) = true
  · rw [if_pos h]
    simp only [h.1, h.2, true_and]
    rfl
  · rw [if_neg h]
    apply propext
    constructor
    · intro z; exact z.elim
    · intro z; exact (h ⟨z.1, z.2.1⟩).elim
theorem o_notin_t {d : D} : oP (dNotIn d (.tuple xs)) f = (SeqAt.shaped d = true ∧ SeqAt.shaped (.tuple xs) = true ∧ f (.bool (!xs.any fun z => PyData.eqv z d))) := by
  have e : dNotIn d (.tuple xs) = if SeqAt.shaped d = true ∧ SeqAt.shaped (.tuple xs) = true then some (PyData.bool (!xs.any fun z => PyData.eqv z d)) else none := by cases d <;> rfl
  rw [e]
  by_cases h : SeqAt.shaped d = true ∧ SeqAt.shaped (.tuple xs) = true
  · rw [if_pos h]
    simp only [h.1, h.2, true_and]
    rfl
  · rw [if_neg h]
    apply propext
    constructor
    · intro z; exact z.elim
    · intro z; exact (h ⟨z.1, z.2.1⟩).elim
theorem o_in_l {d : D} : oP (dIn d (.list xs)) f = (SeqAt.shaped d = true ∧ SeqAt.shaped (.list xs) = true ∧ f (.bool (xs.any fun z => PyData.eqv z d))) := by
  have e : dIn d (.list xs) = if SeqAt.shaped d = true ∧ SeqAt.shaped (.list xs) = true then some (PyData.bool (xs.any fun z => PyData.eqv z d)) else none := by cases d <;> rfl
  rw [e]
  by_cases h : SeqAt.shaped d = true ∧ SeqAt.shaped (.list xs) = true
  · rw [if_pos h]
    simp only [h.1, h.2, true_and]
    rfl
  · rw [if_neg h]
    apply propext
    constructor
    · intro z; exact z.elim
    · intro z; exact (h ⟨z.1, z.2.1⟩).elim
theorem o_notin_l {d : D} : oP (dNotIn d (.list xs)) f = (SeqAt.shaped d = true ∧ SeqAt.shaped (.list xs) = true ∧ f (.bool (!xs.any fun z => PyData.eqv z d))) := by
  have e : dNotIn d (.list xs) = if SeqAt.shaped d = true ∧ SeqAt.shaped (.list xs) = true then some (PyData.bool (!xs.any fun z => PyData.eqv z d)) else none := by cases d <;> rfl
  rw [e]
  by_cases h : SeqAt.shaped d = true ∧ SeqAt.shaped (.list xs) = true
  · rw [if_pos h]
    simp only [h.1, h.2, true_and]
    rfl
  · rw [if_neg h]
    apply propext
    constructor
    · intro z; exact z.elim
    · intro z; exact (h ⟨z.1, z.2.1⟩).elim
theorem o_in_s : oP (dIn (.str x) (.str y)) f = (x.cps.size = 1 ∧ f (.bool (decide (x.cps.getD 0 0 ∈ y.cps.toList)))) := by
  show oP (if x.cps.size = 1 then some (PyData.bool (decide (x.cps.getD 0 0 ∈ y.cps.toList))) else none) f = _
  by_cases h : x.cps.size = 1 <;> simp [h, oP]
theorem o_count : oP (gCount x [.str y]) f = f (.int (Txt.count x y)) := rfl
theorem o_bin : oP (dBin (.int i)) f = ((binS i).length ≤ sizeLine ∧ f (.str (binS i))) := by
  unfold dBin
  by_cases h : (binS i).length ≤ sizeLine <;> simp [h, oP]
theorem o_app {zs : List D} {z : D} {g : D × List D → Prop} : oP (gAppend zs [z]) g = (zs.length < sizeLine ∧ g (.none, zs ++ [z])) := by
  unfold gAppend
  by_cases h : zs.length < sizeLine <;> simp [h, oP]
theorem b_le : boolP (dLe (.int i) (.int j)) a b = if i ≤ j then a else b := by
  unfold dLe
  rw [boolP_b]; simp
theorem b_lt : boolP (dLt (.int i) (.int j)) a b = if i < j then a else b := by
  unfold dLt
  rw [boolP_b]; simp
theorem b_gt : boolP (dGt (.int i) (.int j)) a b = if j < i then a else b := by
  unfold dGt
  rw [boolP_b]; simp
theorem b_ge : boolP (dGe (.int i) (.int j)) a b = if j ≤ i then a else b := by
  unfold dGe
  rw [boolP_b]; simp
theorem o_items_l {g : List D → Prop} : oP (dItems (.list xs)) g = g xs := rfl
theorem o_items_t {g : List D → Prop} : oP (dItems (.tuple xs)) g = g xs := rfl
theorem o_items_s {g : List D → Prop} : oP (dItems (.str x)) g = g (x.cps.toList.map fun c => .str ⟨#[c]⟩) := rfl
theorem o_seq_l {g : List D → Prop} : oP (dSeq (.list xs)) g = g xs := rfl
theorem o_seq_t {g : List D → Prop} : oP (dSeq (.tuple xs)) g = g xs := rfl
theorem o_sub_l : oP (dSub (.list xs) (.int i)) f = oP (atI xs i) f := rfl
theorem o_sub_t : oP (dSub (.tuple xs) (.int i)) f = oP (atI xs i) f := rfl
theorem o_slice_l {l h : Option Int} : oP (dSlice (.list xs) l h) f = f (.list (cut xs l h)) := rfl
theorem o_slice_t {l h : Option Int} : oP (dSlice (.tuple xs) l h) f = f (.tuple (cut xs l h)) := rfl
theorem o_slice_s {l h : Option Int} : oP (dSlice (.str x) l h) f = (x.length ≤ sizeLine ∧ f (.str (cutS x l h))) := by
  unfold dSlice
  by_cases c : x.length ≤ sizeLine <;> simp [c, oP]
theorem o_sub_s : oP (dSub (.str x) (.int i)) f = (x.length ≤ sizeLine ∧ oP (atI x.cps.toList i) fun c => f (.str ⟨#[c]⟩)) := by
  show oP (if x.length ≤ sizeLine then (atI x.cps.toList i).map fun c => PyData.str ⟨#[c]⟩ else none) f = _
  by_cases c : x.length ≤ sizeLine
  · rw [if_pos c]
    cases atI x.cps.toList i <;> simp [c, oP]
  · rw [if_neg c]
    simp [c, oP]
end
theorem canAll {α : Type} {f : α → D} : ∀ {xs : List α}, (∀ x ∈ xs, (f x).canLay0 = true) → PyData.canLayAll0 (xs.map f) = true
  | [], _ => rfl
  | x :: r, h => by
    rw [List.map_cons]
    unfold PyData.canLayAll0
    rw [h x (List.mem_cons_self ..), canAll fun y hy => h y (List.mem_cons_of_mem _ hy)]
    rfl
theorem depAll {α : Type} {f : α → D} {n : Nat} : ∀ {xs : List α}, (∀ x ∈ xs, (f x).depth ≤ n) → PyData.depthAll (xs.map f) ≤ n
  | [], _ => Nat.zero_le _
  | x :: r, h => by
    rw [List.map_cons]
    unfold PyData.depthAll
    exact Nat.max_le.mpr ⟨h x (List.mem_cons_self ..), depAll fun y hy => h y (List.mem_cons_of_mem _ hy)⟩
theorem shaped_lm {α : Type} {f : α → D} {xs : List α} (h : ∀ x ∈ xs, (f x).canLay0 = true ∧ (f x).depth ≤ 63) : SeqAt.shaped (.list (xs.map f)) = true := by
  unfold SeqAt.shaped
  rw [Bool.and_eq_true_iff]
  refine ⟨?_, decide_eq_true ?_⟩
  · unfold PyData.canLay0
    exact canAll fun x hx => (h x hx).1
  · unfold PyData.depth
    have := depAll (f := f) (n := 63) fun x hx => (h x hx).2
    omega
theorem shaped_tm {α : Type} {f : α → D} {xs : List α} (h : ∀ x ∈ xs, (f x).canLay0 = true ∧ (f x).depth ≤ 63) : SeqAt.shaped (.tuple (xs.map f)) = true := by
  have z := shaped_lm h
  unfold SeqAt.shaped at z ⊢
  unfold PyData.canLay0 PyData.depth at z ⊢
  exact z
theorem shaped_ns (ns : List Nat) : SeqAt.shaped (.list (ns.map dn)) = true := shaped_lm fun _ _ => ⟨rfl, Nat.zero_le _⟩
theorem shaped_nt (ns : List Nat) : SeqAt.shaped (.tuple (ns.map dn)) = true := shaped_tm fun _ _ => ⟨rfl, Nat.zero_le _⟩
theorem shaped_t0 : SeqAt.shaped (.tuple []) = true := rfl
theorem shaped_l0 : SeqAt.shaped (.list []) = true := rfl
theorem eqvAll_nil (xs : List D) : PyData.eqvAll xs [] = xs.isEmpty := by
  cases xs <;> rfl
theorem o_ne_ln {xs : List D} {f : D → Prop} : oP (dNe (.list xs) (.list [])) f = (SeqAt.shaped (.list xs) = true ∧ f (.bool (!xs.isEmpty))) := by
  show oP (if SeqAt.shaped (.list xs) = true ∧ SeqAt.shaped (.list []) = true then some (PyData.bool (!PyData.eqvAll xs [])) else none) f = _
  rw [eqvAll_nil]
  by_cases h : SeqAt.shaped (.list xs) = true
  · rw [if_pos ⟨h, rfl⟩]; simp [h, oP]
  · rw [if_neg fun z => h z.1]; simp [h, oP]
theorem o_eq_ln {xs : List D} {f : D → Prop} : oP (dEq (.list xs) (.list [])) f = (SeqAt.shaped (.list xs) = true ∧ f (.bool xs.isEmpty)) := by
  show oP (if SeqAt.shaped (.list xs) = true ∧ SeqAt.shaped (.list []) = true then some (PyData.bool (PyData.eqvAll xs [])) else none) f = _
  rw [eqvAll_nil]
  by_cases h : SeqAt.shaped (.list xs) = true
  · rw [if_pos ⟨h, rfl⟩]; simp [h, oP]
  · rw [if_neg fun z => h z.1]; simp [h, oP]
theorem o_ne_tn {xs : List D} {f : D → Prop} : oP (dNe (.tuple xs) (.tuple [])) f = (SeqAt.shaped (.tuple xs) = true ∧ f (.bool (!xs.isEmpty))) := by
  show oP (if SeqAt.shaped (.tuple xs) = true ∧ SeqAt.shaped (.tuple []) = true then some (PyData.bool (!PyData.eqvAll xs [])) else none) f = _
  rw [eqvAll_nil]
  by_cases h : SeqAt.shaped (.tuple xs) = true
  · rw [if_pos ⟨h, rfl⟩]; simp [h, oP]
  · rw [if_neg fun z => h z.1]; simp [h, oP]
theorem o_eq_tn {xs : List D} {f : D → Prop} : oP (dEq (.tuple xs) (.tuple [])) f = (SeqAt.shaped (.tuple xs) = true ∧ f (.bool xs.isEmpty)) := by
  show oP (if SeqAt.shaped (.tuple xs) = true ∧ SeqAt.shaped (.tuple []) = true then some (PyData.bool (PyData.eqvAll xs [])) else none) f = _
  rw [eqvAll_nil]
  by_cases h : SeqAt.shaped (.tuple xs) = true
  · rw [if_pos ⟨h, rfl⟩]; simp [h, oP]
  · rw [if_neg fun z => h z.1]; simp [h, oP]
theorem c_add (a b : Nat) : (a : Int) + (b : Int) = ((a + b : Nat) : Int) := by omega
theorem c_mul (a b : Nat) : (a : Int) * (b : Int) = ((a * b : Nat) : Int) := by simp
theorem c_div (a b : Nat) : (a : Int) / (b : Int) = ((a / b : Nat) : Int) := by simp
theorem c_mod (a b : Nat) : (a : Int) % (b : Int) = ((a % b : Nat) : Int) := by simp
theorem c_lt (a b : Nat) : ((a : Int) < (b : Int)) = (a < b) := by simp
theorem c_le (a b : Nat) : ((a : Int) ≤ (b : Int)) = (a ≤ b) := by simp
theorem c_eq (a b : Nat) : ((a : Int) = (b : Int)) = (a = b) := by simp [Int.natCast_inj]
theorem c_0lt (a : Nat) : ((0 : Int) < (a : Int)) = (0 < a) := by simp
theorem c_0le (a : Nat) : ((0 : Int) ≤ (a : Int)) = True := by simp
theorem c_shl (a n : Nat) : (a : Int) * 2 ^ ((n : Int).toNat) = ((a * 2 ^ n : Nat) : Int) := by simp
theorem c_shr (a n : Nat) : (a : Int) / 2 ^ ((n : Int).toNat) = ((a / 2 ^ n : Nat) : Int) := by simp
theorem c_and (a b : Nat) : Builtin.bitAnd (a : Int) (b : Int) = ((a &&& b : Nat) : Int) := by
  rw [PyProof.Rows.bitAnd_pp (by omega) (by omega)]; rfl
theorem c_or (a b : Nat) : Builtin.bitOr (a : Int) (b : Int) = ((a ||| b : Nat) : Int) := by
  rw [Bits.bitOr_pp (by omega) (by omega)]; rfl
theorem c_xor (a b : Nat) : Builtin.bitXor (a : Int) (b : Int) = ((a ^^^ b : Nat) : Int) := by
  rw [Bits.bitXor_pp (by omega) (by omega)]; rfl
theorem c_max (a b : Nat) : max (a : Int) (b : Int) = ((max a b : Nat) : Int) := by omega
theorem c_min (a b : Nat) : min (a : Int) (b : Int) = ((min a b : Nat) : Int) := by omega
theorem c_abs (a : Nat) : ((a : Int).natAbs : Int) = (a : Int) := by simp
theorem divOk_n (n : Nat) : divOk (n : Int) = (0 < n ∧ n < 4611686018427387904) := by
  unfold divOk
  apply propext
  omega
theorem rngOk_n (a b : Nat) : rngOk (a : Int) (b : Int) = (a < 4611686018427387904 ∧ b < 4611686018427387904) := by
  unfold rngOk
  apply propext
  omega
theorem rng_len (a b : Nat) : (rngItems (a : Int) (b : Int)).length = b - a := by
  unfold rngItems
  rw [List.length_map, List.length_range]
  omega
theorem rng_n (a b : Nat) : rngItems (a : Int) (b : Int) = (List.range (b - a)).map fun k => dn (a + k) := by
  unfold rngItems
  rw [show ((b : Int) - (a : Int)).toNat = b - a by omega]
  rfl
theorem rng_0 (b : Nat) : rngItems ((0 : Nat) : Int) (b : Int) = (List.range b).map dn := by
  rw [rng_n, Nat.sub_zero]
  exact List.map_congr_left fun k _ => by simp
theorem c_ne0 (a : Nat) : ((a : Int) != 0) = (a != 0) := by
  by_cases h : a = 0
  · subst h; rfl
  · rw [bne_iff_ne.mpr (by omega), bne_iff_ne.mpr h]
theorem c_sub {a b : Nat} (h : b ≤ a) : (a : Int) - (b : Int) = ((a - b : Nat) : Int) := by omega
theorem mulOk_n {a b m n : Nat} (ha : a < 2 ^ m) (hb : b < 2 ^ n) (h : m + n ≤ 134217728) : mulOk (a : Int) (b : Int) = true := mul_ok (a := m) (b := n) (by simpa using ha) (by simpa using hb) h
theorem shlOk_n {a m n : Nat} (ha : a < 2 ^ m) (h : m + n ≤ 134217728) : shlOk (a : Int) (n : Int) := by
  have := bits_le (i := (a : Int)) (k := m) (by simpa using ha)
  unfold shlOk
  omega
theorem sizeLine_n : sizeLine = 16777216 := by decide
theorem cut_l {xs : List D} (n : Nat) : cut xs (some (n : Int)) none = xs.drop n := by
  unfold cut
  rw [HT.sIx_nat, HT.sIx_none]
  rcases Nat.le_total n xs.length with h | h
  · rw [Nat.min_eq_left h, List.take_of_length_le (by simp)]
  · rw [Nat.min_eq_right h, List.drop_eq_nil_of_le h, List.drop_eq_nil_of_le (Nat.le_refl _), List.take_nil]
theorem cut_r {xs : List D} (n : Nat) : cut xs none (some (n : Int)) = xs.take n := by
  unfold cut
  rw [HT.sIx_nat, HT.sIx_none, List.drop_zero, Nat.sub_zero]
  rcases Nat.le_total n xs.length with h | h
  · rw [Nat.min_eq_left h]
  · rw [Nat.min_eq_right h, List.take_of_length_le (Nat.le_refl _), List.take_of_length_le h]
theorem cut_lr {xs : List D} (a b : Nat) : cut xs (some (a : Int)) (some (b : Int)) = (xs.drop a).take (b - a) := by
  unfold cut
  rw [HT.sIx_nat, HT.sIx_nat]
  rcases Nat.le_total a xs.length with h | h
  · rw [Nat.min_eq_left h]
    rcases Nat.le_total b xs.length with g | g
    · rw [Nat.min_eq_left g]
    · rw [Nat.min_eq_right g, List.take_of_length_le (i := xs.length - a) (by simp), List.take_of_length_le (by simp; omega)]
  · rw [Nat.min_eq_right h, List.drop_eq_nil_of_le h, List.drop_eq_nil_of_le (Nat.le_refl _), List.take_nil, List.take_nil]
theorem cut_n {xs : List D} : cut xs none none = xs := by
  unfold cut
  rw [HT.sIx_none, HT.sIx_none, List.drop_zero, Nat.sub_zero, List.take_of_length_le (Nat.le_refl _)]
theorem at_n {xs : List D} (n : Nat) : atI xs (n : Int) = xs[n]? := by
  unfold atI ixN
  by_cases h : n < xs.length
  · rw [if_pos (by omega), if_pos (by omega), Int.toNat_natCast]
    rfl
  · rw [if_pos (by omega), if_neg (by omega), List.getElem?_eq_none (by omega)]
    rfl
/-- a comprehension whose turns are told -/
theorem wComp_eq {α : Type} {turn : D → Sto → (Option D → Sto → Prop) → Prop} {S : Sto} (en : α → D) (g : α → Option D) : ∀ (xs : List α) {Q : List D → Sto → Prop}, (∀ a ∈ xs, ∀ K : Option D → Sto → Prop, turn (en a) S K = K (g a) S) → wComp turn (xs.map en) S Q = Q (xs.filterMap g) S
  | [], Q, h => rfl
  | a :: r, Q, h => by
    rw [List.map_cons]
    unfold wComp
    rw [h a (List.mem_cons_self ..)]
    rw [wComp_eq en g r fun b hb K => h b (List.mem_cons_of_mem _ hb) K]
    cases q : g a with
    | none => rw [List.filterMap_cons_none q]; rfl
    | some y => rw [List.filterMap_cons_some q]; rfl
theorem wComp_map {α : Type} {turn : D → Sto → (Option D → Sto → Prop) → Prop} {S : Sto} (en : α → D) (g : α → D) (xs : List α) {Q : List D → Sto → Prop} (h : ∀ a ∈ xs, ∀ K : Option D → Sto → Prop, turn (en a) S K = K (some (g a)) S) : wComp turn (xs.map en) S Q = Q (xs.map g) S := by
  rw [wComp_eq en (fun a => some (g a)) xs h]
  rw [List.filterMap_eq_map']
theorem wComp_mapN {α β : Type} {turn : D → Sto → (Option D → Sto → Prop) → Prop} {S : Sto} (en : α → D) (en' : β → D) (g : α → β) (xs : List α) {Q : List D → Sto → Prop} (h : ∀ a ∈ xs, ∀ K : Option D → Sto → Prop, turn (en a) S K = K (some (en' (g a))) S) : wComp turn (xs.map en) S Q = Q ((xs.map g).map en') S := by
  rw [wComp_map en (fun a => en' (g a)) xs h, List.map_map]
  rfl
theorem wComp_filter {α : Type} {turn : D → Sto → (Option D → Sto → Prop) → Prop} {S : Sto} (en : α → D) (p : α → Bool) (g : α → D) (xs : List α) {Q : List D → Sto → Prop} (h : ∀ a ∈ xs, ∀ K : Option D → Sto → Prop, turn (en a) S K = K (if p a = true then some (g a) else none) S) : wComp turn (xs.map en) S Q = Q ((xs.filter p).map g) S := by
  rw [wComp_eq en (fun a => if p a = true then some (g a) else none) xs h]
  have e : (xs.filterMap fun a => if p a = true then some (g a) else none) = (xs.filter p).map g := by
    clear h
    induction xs with
    | nil => rfl
    | cons a r ih =>
      by_cases q : p a = true
      · rw [List.filterMap_cons_some (b := g a) (by simp [q]), List.filter_cons_of_pos q, List.map_cons, ih]
      · rw [List.filterMap_cons_none (by simp [q]), List.filter_cons_of_neg q, ih]
  rw [e]
/-- .. by what holds between turns -/
theorem wComp_inv {turn : D → Sto → (Option D → Sto → Prop) → Prop} (J : List D → List D → Sto → Prop)
    (hs : ∀ x r ys S K, J (x :: r) ys S → (∀ y S1, J r (ys ++ [y]) S1 → K (some y) S1) → (∀ S1, J r ys S1 → K none S1) → turn x S K) : ∀ (xs ys : List D) (S : Sto) {Q : List D → Sto → Prop}, J xs ys S → (∀ zs S1, J [] (ys ++ zs) S1 → Q zs S1) → wComp turn xs S Q
  | [], ys, S, Q, h, q => by
    unfold wComp
    exact q [] S (by rw [List.append_nil]; exact h)
  | x :: r, ys, S, Q, h, q => by
    unfold wComp
    refine hs x r ys S _ h (fun y S1 h1 => ?_) fun S1 h1 => ?_
    · exact wComp_inv J hs r (ys ++ [y]) S1 h1 fun zs S2 h2 => q (y :: zs) S2 (by rw [List.append_assoc] at h2; exact h2)
    · exact wComp_inv J hs r ys S1 h1 fun zs S2 h2 => q zs S2 h2
/-- a for by what holds between turns -/
theorem w_for {turn : D → Lo → Sto → Rv → Prop} {R : Rv} (I : List D → Lo → Sto → Prop)
    (hs : ∀ x r τ S (K : Rv), I (x :: r) τ S → (∀ τ1 S1, I r τ1 S1 → K (.nx τ1) S1) → (∀ τ1 S1, I r τ1 S1 → K (.cnt τ1) S1) → (∀ τ1 S1, R (.nx τ1) S1 → K (.brk τ1) S1) → (∀ w S1, R (.ret w) S1 → K (.ret w) S1) → (∀ τ1 e S1, R (.rs τ1 e) S1 → K (.rs τ1 e) S1) → turn x τ S K)
    (hd : ∀ τ S, I [] τ S → R (.nx τ) S) : ∀ (xs : List D) (τ : Lo) (S : Sto), I xs τ S → wFor turn xs τ S R
  | [], τ, S, h => hd τ S h
  | x :: r, τ, S, h => by
    unfold wFor
    exact hs x r τ S _ h (fun τ1 S1 h1 => w_for I hs hd r τ1 S1 h1) (fun τ1 S1 h1 => w_for I hs hd r τ1 S1 h1) (fun τ1 S1 h1 => h1) (fun w S1 h1 => h1) fun τ1 e S1 h1 => h1
/-- a for that is told: a fold -/
theorem wFor_eq {α β : Type} {turn : D → Lo → Sto → Rv → Prop} (en : β → D) (T : α → Lo) (U : α → Sto) (step : α → β → α) (P : List β → α → Prop) (h : ∀ x r a (K : Rv), P (x :: r) a → P r (step a x) ∧ turn (en x) (T a) (U a) K = K (.nx (T (step a x))) (U (step a x))) : ∀ (xs : List β) (a : α) {R : Rv}, P xs a → wFor turn (xs.map en) (T a) (U a) R = R (.nx (T (xs.foldl step a))) (U (xs.foldl step a))
  | [], a, R, _ => rfl
  | x :: r, a, R, hp => by
    rw [List.map_cons]
    unfold wFor
    rw [(h x r a _ hp).2]
    dsimp only
    rw [wFor_eq en T U step P h r (step a x) (h x r a (fun _ _ => True) hp).1]
    rfl
/-- a while that is told -/
def runW {α : Type} (step : α → Option α) : Nat → α → α
  | 0, a => a
  | n + 1, a => match step a with
    | some b => runW step n b
    | none => a
theorem wWhl_eq {α : Type} {t : Lo → Sto → Xv → (Bool → Sto → Prop) → Prop} {body : Lo → Sto → Rv → Prop} (T : α → Lo) (U : α → Sto) (step : α → Option α) (P : α → Prop) (μ : α → Nat) (hμ : ∀ a b, P a → step a = some b → P b ∧ μ b < μ a)
    (hs : ∀ a X (K : Rv) (R : Rv), P a → (t (T a) (U a) X fun c S1 => if c = true then body (T a) S1 K else R (.nx (T a)) S1) = match step a with
      | some b => K (.nx (T b)) (U b)
      | none => R (.nx (T a)) (U a)) : ∀ (m : Nat) (a : α) (n : Nat) {R : Rv}, P a → μ a ≤ n → μ a < m → wWhl t body m (T a) (U a) R = R (.nx (T (runW step n a))) (U (runW step n a))
  | 0, a, n, R, hp, hn, h => absurd h (Nat.not_lt_zero _)
  | m + 1, a, n, R, hp, hn, h => by
    unfold wWhl
    rw [hs a _ _ _ hp]
    cases q : step a with
    | none =>
      have e : runW step n a = a := by
        cases n with
        | zero => rfl
        | succ k => unfold runW; rw [q]
      rw [e]
    | some b =>
      obtain ⟨pb, hb⟩ := hμ a b hp q
      obtain ⟨k, hk⟩ : ∃ k, n = k + 1 := ⟨n - 1, by omega⟩
      subst hk
      dsimp only
      rw [wWhl_eq T U step P μ hμ hs m b k pb (by omega) (by omega)]
      have e : runW step (k + 1) a = runW step k b := by
        rw [runW, q]
      rw [e]
def retP (fresh : Bool) (S : Sto) (Q : Qv) : Qv := fun w S1 => match w with
  | .d x => Q (.d x) S
  | .ref k => match S1[k]? with
    | some (.dl xs) => if fresh = true then Q (.ref S.length) (S ++ [.dl xs]) else Q (.d (.list xs)) S
    | some (.dd xs) => if fresh = true then Q (.ref S.length) (S ++ [.dd xs]) else False
    | some (.mp xs) => (fresh = true ∧ allD xs = true) ∧ Q (.ref S.length) (S ++ [.mp xs])
    | _ => False
theorem retP_d {fresh : Bool} {S S1 : Sto} {Q : Qv} {x : D} : retP fresh S Q (.d x) S1 = Q (.d x) S := rfl
section
variable {G : Tbl} {k i : Nat} {fd : Fn} {ws : List W} {S : Sto} {Q : Qv} {X : Xv}
theorem w_fn (hG : G i = some fd) (hk : fd.kd = 0) (hi : fd.iso = true) (hl : ws.length = fd.np) : wcalls G (k + 1) i ws S Q X = wIso fd.fresh (wRun (wcalls G k) fd) ws S Q X := by
  unfold wcalls
  rw [hG, oP_some, if_neg (by rw [hk]; decide), if_neg (by rw [hk]; decide), if_pos hi]
  exact propext ⟨fun h => h.2, fun h => ⟨hl, h⟩⟩
theorem isoP_nil {fresh : Bool} : isoP fresh S [] Q = retP fresh S Q := by
  funext w S1
  unfold isoP retP
  rw [putShut_nil, oP_some]
  cases w with
  | d x => rfl
  | ref k =>
    dsimp only
    rw [if_neg (by simp)]
    try rfl
theorem w_fn0 (hG : G i = some fd) (hk : fd.kd = 0) (hi : fd.iso = true) (hl : ws.length = fd.np) (hr : refsOf ws = []) (hw : isoIn ws 0 = ws) :
    wcalls G (k + 1) i ws S Q X = wB (wcalls G k) (begin_ fd.ns ws) [] fd.body (runP (retP fd.fresh S Q) fun e _ => X e S) := by
  rw [w_fn hG hk hi hl]
  unfold wIso
  rw [hr, isoP_nil, hw]
  have e2 : (fun (e : Ev) (S1 : Sto) => oP (putShut S [] S1) fun S2 => X e S2) = fun e _ => X e S := by
    funext e S1
    rw [putShut_nil]
    rfl
  rw [e2]
  exact propext ⟨fun h => h.2, fun h => ⟨rfl, h⟩⟩
/-- one token among what is handed on -/
def backT (fresh : Bool) (n : Nat) (S : Sto) (Q : Qv) (rest : Sto) (w : W) : Prop := match w with
  | .d x => Q (.d x) S
  | .ref 0 => Q (.ref n) S
  | .ref (k + 1) => match rest[k]? with
    | some (.dl xs) => if fresh = true then Q (.ref S.length) (S ++ [.dl xs]) else Q (.d (.list xs)) S
    | some (.dd xs) => if fresh = true then Q (.ref S.length) (S ++ [.dd xs]) else False
    | some (.mp xs) => (fresh = true ∧ allD xs = true) ∧ Q (.ref S.length) (S ++ [.mp xs])
    | _ => False
def retT (fresh : Bool) (n : Nat) (S : Sto) (Q : Qv) : Qv := fun w S1 => match S1 with
  | .tok :: rest => backT fresh n S Q rest w
  | ob :: rest => ob.shut = true ∧ backT fresh n (S.set n ob) Q rest w
  | [] => False
theorem retT_d {fresh : Bool} {n : Nat} {S rest : Sto} {Q : Qv} {x : D} : retT fresh n S Q (.d x) (.tok :: rest) = Q (.d x) S := rfl
def tokX (n : Nat) (S : Sto) (X : Xv) : Xv := fun e S1 => match S1 with
  | .tok :: _ => X e S
  | ob :: _ => ob.shut = true ∧ X e (S.set n ob)
  | [] => False
theorem tokX_c {n : Nat} {S rest : Sto} {X : Xv} {e : Ev} : tokX n S X e (.tok :: rest) = X e S := rfl
theorem set_tok {S : Sto} {n : Nat} (h : S[n]? = some .tok) : S.set n .tok = S := List.ext_getElem? fun j => by
  rw [List.getElem?_set]
  split
  · rename_i hj
    subst hj
    split
    · exact h.symm
    · rename_i hj2
      rw [List.getElem?_eq_none (by omega)] at h
      cases h
  · rfl
theorem put_one {n : Nat} {ob : Ob} {rest : Sto} : putShut S [n] (ob :: rest) = if ob.shut = true then some (S.set n ob) else none := by
  unfold putShut
  simp only [putShut_nil]
theorem isoP_back {fresh : Bool} {n : Nat} {ob : Ob} {rest : Sto} {w : W} : isoP fresh S [n] Q w (ob :: rest) = (ob.shut = true ∧ backT fresh n (S.set n ob) Q rest w) := by
  unfold isoP
  rw [put_one]
  by_cases h : ob.shut = true
  · rw [if_pos h, oP_some]
    refine Eq.trans ?_ (propext ⟨fun z => ⟨h, z⟩, fun z => z.2⟩)
    cases w with
    | d x => rfl
    | ref j =>
      cases j with
      | zero => rfl
      | succ j =>
        dsimp only
        rw [if_neg (by simp)]
        rfl
  · rw [if_neg h]
    simp [h, oP]
theorem w_fn1 {n : Nat} (hG : G i = some fd) (hk : fd.kd = 0) (hi : fd.iso = true) (hl : ws.length = fd.np) (hr : refsOf ws = [n]) (hn : S[n]? = some .tok) :
    wcalls G (k + 1) i ws S Q X = wB (wcalls G k) (begin_ fd.ns (isoIn ws 0)) [.tok] fd.body (runP (retT fd.fresh n S Q) (tokX n S X)) := by
  rw [w_fn hG hk hi hl]
  unfold wIso
  rw [hr]
  have e0 : getShut S [n] = some [.tok] := by
    unfold getShut
    rw [hn]
    rfl
  have e : isoP fd.fresh S [n] Q = retT fd.fresh n S Q := by
    funext w S1
    cases S1 with
    | nil => rfl
    | cons ob rest =>
      rw [isoP_back]
      cases ob with
      | tok =>
        rw [set_tok hn]
        exact propext ⟨fun h => h.2, fun h => ⟨rfl, h⟩⟩
      | _ => rfl
  have e2 : (fun (e : Ev) (S1 : Sto) => oP (putShut S [n] S1) fun S2 => X e S2) = tokX n S X := by
    funext e S1
    cases S1 with
    | nil => rfl
    | cons ob rest =>
      rw [put_one]
      cases ob with
      | tok =>
        rw [set_tok hn]
        rfl
      | dl xs => simp [oP, tokX, Ob.shut]
      | dd xs => simp [oP, tokX, Ob.shut]
      | mp xs => by_cases c : allD xs = true <;> simp [oP, tokX, Ob.shut, c]
      | _ => simp [oP, tokX, Ob.shut]
  rw [e0, oP_some, e, e2]
  exact propext ⟨fun h => h.2, fun h => ⟨rfl, h⟩⟩
theorem w_draw {n m : Nat} (hG : G i = some fd) (hk : fd.kd = 1) (hl : fd.np = 2) : wcalls G (k + 1) i [.ref n, .d (.int (m : Int))] S Q X = (S[n]? = some .tok ∧ 0 < m ∧ m < 4611686018427387904 ∧ ∀ d : Nat, d < m → Q (.d (.int (d : Int))) S) := by
  unfold wcalls
  rw [hG]
  simp only [oP, hk, hl, if_true, List.length_cons, List.length_nil]
  unfold wDraw
  apply propext
  constructor
  · rintro ⟨_, h1, h2, h3, h4⟩
    exact ⟨h1, by omega, by omega, fun d hd => h4 d (by omega)⟩
  · rintro ⟨h1, h2, h3, h4⟩
    exact ⟨trivial, h1, by omega, by omega, fun d hd => h4 d (by omega)⟩
theorem w_well {i : Nat} {ds : List D} {j : Nat} {ns : List Int} (hG : G i = some fd) (hk : fd.kd = 2) (hl : fd.np = 2) (hd : ds = ns.map .int) (hn : ns.length ≤ 63) (hj : j < 1000) : wcalls G (k + 1) i [.d (.list ds), .d (.int (j : Int))] S Q X = Q (.ref S.length) (S ++ [.tok]) := by
  unfold wcalls
  rw [hG, oP_some, if_neg (by rw [hk]; decide), if_pos hk]
  show (_ ∧ wWell _ _ _) = _
  unfold wWell
  apply propext
  constructor
  · exact fun h => h.2.2.2
  · exact fun h => ⟨by rw [hl]; rfl, ⟨ns, hd, hn⟩, ⟨by omega, by omega⟩, h⟩
/-- a law's outermost comprehension -/
theorem w_law {C : KF} {τ : Lo} {vs : List Nat} {e : Ex} {tg : Tg} {t : Te} {m : Nat} {S : Sto} {Q : List D → Sto → Prop} (h : ∀ i S1 (K : Option D → Sto → Prop), i < m → (∀ S2, K (some (.bool true)) S2) → cTurn C τ vs e tg t (dn i) S1 K) (hq : ∀ S1, Q ((List.replicate m true).map .bool) S1) : wComp (cTurn C τ vs e tg t) (rngItems ((0 : Nat) : Int) (m : Int)) S Q := by
  rw [rng_0]
  refine wComp_inv (fun r ys _ => ∃ a b : List Nat, r = b.map dn ∧ (∀ i ∈ b, i < m) ∧ ys = (List.replicate a.length true).map .bool ∧ a.length + b.length = m) ?hs _ [] _ ⟨[], List.range m, rfl, fun i hi => List.mem_range.mp hi, rfl, by simp⟩ ?he
  case hs =>
    rintro x r ys S1 K ⟨a, b, hb, hm, hy, hl⟩ hk _
    cases b with
    | nil => cases hb
    | cons i b =>
      rw [List.map_cons] at hb
      injection hb with e1 e2
      subst e1 e2
      refine h i S1 K (hm i (List.mem_cons_self ..)) fun S2 => hk _ S2 ⟨i :: a, b, rfl, fun j hj => hm j (List.mem_cons_of_mem _ hj), ?_, by simp at hl ⊢; omega⟩
      rw [hy, List.length_cons, List.replicate_succ', List.map_append]
      rfl
  case he =>
    rintro zs S1 ⟨a, b, hb, hm, hy, hl⟩
    cases b with
    | cons i b => cases hb
    | nil =>
      rw [List.nil_append] at hy
      have : a.length = m := by simpa using hl
      rw [hy, this]
      exact hq S1
theorem all_rep (m : Nat) : (List.replicate m true).all id = true := by
  induction m with
  | zero => rfl
  | succ m ih => rw [List.replicate_succ, List.all_cons, ih]; rfl
end
end Ft
namespace Ft
open PySem PySem.Spec L2
def tblOf (gl : List (Nat × Fn)) : Tbl := fun i => (gl.find? fun p => p.1 == i).map (·.2)
theorem tbl_mem {gl : List (Nat × Fn)} {i : Nat} {fd : Fn} (h : tblOf gl i = some fd) : (i, fd) ∈ gl := by
  unfold tblOf at h
  obtain ⟨p, h1, rfl⟩ := Option.map_eq_some_iff.mp h
  have h2 := List.find?_some h1
  have h3 := List.mem_of_find?_eq_some h1
  have : p.1 = i := by simpa using h2
  subst this
  exact h3
theorem kds_of {gl : List (Nat × Fn)} {ds ws : List Nat} (h1 : (gl.all fun p => !(p.2.kd == 1) || ds.contains p.1) = true) (h2 : (gl.all fun p => !(p.2.kd == 2) || ws.contains p.1) = true)
    (hd : ∀ i fd, i ∈ ds → tblOf gl i = some fd → DrawOk fd) (hw : ∀ i fd, i ∈ ws → tblOf gl i = some fd → WellOk fd) : Kds (tblOf gl) := by
  refine ⟨fun i fd hg hk => hd i fd ?_ hg, fun i fd hg hk => hw i fd ?_ hg⟩
  · have := List.all_eq_true.mp h1 _ (tbl_mem hg)
    simpa [hk] using this
  · have := List.all_eq_true.mp h2 _ (tbl_mem hg)
    simpa [hk] using this
theorem caps_of {gl : List (Nat × Fn)} {M : Nat} (h : (gl.all fun p => decide (nB 1 p.2.body ≤ M)) = true) : ∀ i fd, tblOf gl i = some fd → nB 1 fd.body ≤ M := fun i fd hg => of_decide_eq_true (List.all_eq_true.mp h _ (tbl_mem hg))
end Ft
set_option autoImplicit false
namespace Ft
open PySem PySem.Spec L2
theorem ST : (type_of% @wE_var) ∧ (type_of% @wE_c) ∧ (type_of% @wE_op1) ∧ (type_of% @wE_op2) ∧ (type_of% @wE_opn) ∧ (type_of% @wE_ite) ∧ (type_of% @wE_and) ∧ (type_of% @wE_or) ∧ (type_of% @wE_not) ∧ (type_of% @wE_chain) ∧ (type_of% @wE_tup) ∧ (type_of% @wE_lst) ∧ (type_of% @wE_nlst) ∧ (type_of% @wE_sub) ∧ (type_of% @wE_slice) ∧ (type_of% @wE_sliceL) ∧ (type_of% @wE_sliceR) ∧ (type_of% @wE_sliceN) ∧ (type_of% @wE_call) ∧ (type_of% @wE_callk) ∧ (type_of% @wE_comp) ∧ (type_of% @wE_compN) ∧ (type_of% @wE_dcomp) ∧ (type_of% @wE_dz) ∧ (type_of% @wE_dnew) ∧ (type_of% @wE_nbin) ∧ (type_of% @wE_cmpR) ∧ (type_of% @wE_rtup) ∧ (type_of% @wE_rlst) ∧ (type_of% @wE_subR) ∧ (type_of% @wE_dget) ∧ (type_of% @wE_dset) ∧ (type_of% @wE_dkeys) ∧ (type_of% @wE_dsort) ∧ (type_of% @wE_demp) ∧ (type_of% @wE_inD) ∧ (type_of% @wE_comp2) ∧ (type_of% @wE_mstr) ∧ (type_of% @wE_mlst) ∧ (type_of% @wE_len) ∧ (type_of% @wE_frz) ∧ (type_of% @wEs_nil) ∧ (type_of% @wEs_cons) ∧ (type_of% @wEs_star) ∧ (type_of% @wT_tt) ∧ (type_of% @wT_e) ∧ (type_of% @wT_and) ∧ (type_of% @wT_or) ∧ (type_of% @wT_not) ∧ (type_of% @wT_ite) ∧ (type_of% @wI_seq) ∧ (type_of% @wI_rng) ∧ (type_of% @wI_rng3) ∧ (type_of% @wI_enum) ∧ (type_of% @wI_zip) ∧ (type_of% @wP_v) ∧ (type_of% @wP_e) ∧ (type_of% @wP_t) ∧ (type_of% @wP_s) ∧ (type_of% @wS_ex) ∧ (type_of% @wS_asg) ∧ (type_of% @wS_par) ∧ (type_of% @wS_par3) ∧ (type_of% @wS_aug) ∧ (type_of% @wS_ret) ∧ (type_of% @wS_ifs) ∧ (type_of% @wS_fors) ∧ (type_of% @wS_whl) ∧ (type_of% @wS_pass) ∧ (type_of% @wS_brk) ∧ (type_of% @wS_cnt) ∧ (type_of% @wB_nil) ∧ (type_of% @wB_cons) ∧ (type_of% @thenB_nx) ∧ (type_of% @thenB_ret) ∧ (type_of% @thenB_rs) ∧ (type_of% @thenB_brk) ∧ (type_of% @thenB_cnt) ∧ (type_of% @runP_ret) ∧ (type_of% @runP_nx) ∧ (type_of% @runP_rs) ∧ (type_of% @getL_0) ∧ (type_of% @getL_s) ∧ (type_of% @set_0) ∧ (type_of% @set_s) ∧ (type_of% @sset_0) ∧ (type_of% @sset_s) ∧ (type_of% @sget_0) ∧ (type_of% @sget_s) ∧ (type_of% @asData_d) ∧ (type_of% @asData_0) ∧ (type_of% @asData_f) ∧ (type_of% @asData_s) ∧ (type_of% @wP_u) ∧ (type_of% @wP_us) ∧ (type_of% @obP_0) ∧ (type_of% @obP_s) ∧ (type_of% @dlP_0) ∧ (type_of% @dlP_s) ∧ (type_of% @isNo_n) ∧ (type_of% @isNo_i) ∧ (type_of% @isNo_b) ∧ (type_of% @isNo_s) ∧ (type_of% @isNo_t) ∧ (type_of% @isNo_l) ∧ (type_of% @wTruth_d) ∧ (type_of% @dTruth_b) ∧ (type_of% @dTruth_n) ∧ (type_of% @dTruth_i) ∧ (type_of% @dTruth_t) ∧ (type_of% @dTruth_l) ∧ (type_of% @part_i) ∧ (type_of% @datas_nil) ∧ (type_of% @datas_cons) ∧ (type_of% @datas_map) ∧ (type_of% @datas_app) ∧ (type_of% @omap_s) ∧ (type_of% @pick_nil) ∧ (type_of% @oP_some) ∧ (type_of% @oP_none) ∧ (type_of% @dP_d) ∧ (type_of% @dP_ref) ∧ (type_of% @intP_d) ∧ (type_of% @strP_d) ∧ (type_of% @lenP_list) ∧ (type_of% @lenP_tuple) ∧ (type_of% @lenP_str) ∧ (type_of% @zipP_d) ∧ (type_of% @mlP_ref) ∧ (type_of% @frzP_d) ∧ (type_of% @frzP_00) ∧ (type_of% @frzP_ff) ∧ (type_of% @frzP_s) ∧ (type_of% @putP_r) ∧ (type_of% @putO_dl) ∧ (type_of% @putO_rl) ∧ (type_of% @putO_mp) ∧ (type_of% @subO_dl) ∧ (type_of% @subO_fz) ∧ (type_of% @subO_rl) ∧ (type_of% @subO_mp) ∧ (type_of% @subP_d) ∧ (type_of% @subP_r) ∧ (type_of% @lsP_l) ∧ (type_of% @rtO_c) ∧ (type_of% @rtP_r) ∧ (type_of% @rtsO_c) ∧ (type_of% @rtsP_r) ∧ (type_of% @mpO_m) ∧ (type_of% @mpP_r) ∧ (type_of% @tupP_c) ∧ (type_of% @tupP_n) ∧ (type_of% @o_any) ∧ (type_of% @o_all) ∧ (type_of% @o_sum) :=
  ⟨@wE_var, @wE_c, @wE_op1, @wE_op2, @wE_opn, @wE_ite, @wE_and, @wE_or, @wE_not, @wE_chain, @wE_tup, @wE_lst, @wE_nlst, @wE_sub, @wE_slice, @wE_sliceL, @wE_sliceR, @wE_sliceN, @wE_call, @wE_callk, @wE_comp, @wE_compN, @wE_dcomp, @wE_dz, @wE_dnew, @wE_nbin, @wE_cmpR, @wE_rtup, @wE_rlst, @wE_subR, @wE_dget, @wE_dset, @wE_dkeys, @wE_dsort, @wE_demp, @wE_inD, @wE_comp2, @wE_mstr, @wE_mlst, @wE_len, @wE_frz, @wEs_nil, @wEs_cons, @wEs_star, @wT_tt, @wT_e, @wT_and, @wT_or, @wT_not, @wT_ite, @wI_seq, @wI_rng, @wI_rng3, @wI_enum, @wI_zip, @wP_v, @wP_e, @wP_t, @wP_s, @wS_ex, @wS_asg, @wS_par, @wS_par3, @wS_aug, @wS_ret, @wS_ifs, @wS_fors, @wS_whl, @wS_pass, @wS_brk, @wS_cnt, @wB_nil, @wB_cons, @thenB_nx, @thenB_ret, @thenB_rs, @thenB_brk, @thenB_cnt, @runP_ret, @runP_nx, @runP_rs, @getL_0, @getL_s, @set_0, @set_s, @sset_0, @sset_s, @sget_0, @sget_s, @asData_d, @asData_0, @asData_f, @asData_s, @wP_u, @wP_us, @obP_0, @obP_s, @dlP_0, @dlP_s, @isNo_n, @isNo_i, @isNo_b, @isNo_s, @isNo_t, @isNo_l, @wTruth_d, @dTruth_b, @dTruth_n, @dTruth_i, @dTruth_t, @dTruth_l, @part_i, @datas_nil, @datas_cons, @datas_map, @datas_app, @omap_s, @pick_nil, @oP_some, @oP_none, @dP_d, @dP_ref, @intP_d, @strP_d, @lenP_list, @lenP_tuple, @lenP_str, @zipP_d, @mlP_ref, @frzP_d, @frzP_00, @frzP_ff, @frzP_s, @putP_r, @putO_dl, @putO_rl, @putO_mp, @subO_dl, @subO_fz, @subO_rl, @subO_mp, @subP_d, @subP_r, @lsP_l, @rtO_c, @rtP_r, @rtsO_c, @rtsP_r, @mpO_m, @mpP_r, @tupP_c, @tupP_n, @o_any, @o_all, @o_sum⟩
theorem SO : (type_of% @o_add) ∧ (type_of% @o_add_s) ∧ (type_of% @o_add_t) ∧ (type_of% @o_add_l) ∧ (type_of% @o_sub) ∧ (type_of% @o_mul) ∧ (type_of% @o_mul_t) ∧ (type_of% @o_div) ∧ (type_of% @o_mod) ∧ (type_of% @o_shl) ∧ (type_of% @o_shr) ∧ (type_of% @o_and) ∧ (type_of% @o_or) ∧ (type_of% @o_xor) ∧ (type_of% @o_neg) ∧ (type_of% @o_eq) ∧ (type_of% @o_ne) ∧ (type_of% @o_eq_s) ∧ (type_of% @o_ne_s) ∧ (type_of% @o_lt) ∧ (type_of% @o_le) ∧ (type_of% @o_gt) ∧ (type_of% @o_ge) ∧ (type_of% @o_is) ∧ (type_of% @o_isn) ∧ (type_of% @o_is_b) ∧ (type_of% @o_isn_b) ∧ (type_of% @o_abs) ∧ (type_of% @o_max) ∧ (type_of% @o_min) ∧ (type_of% @o_int) ∧ (type_of% @o_tuple_l) ∧ (type_of% @o_tuple_t) ∧ (type_of% @o_list_l) ∧ (type_of% @o_list_t) ∧ (type_of% @o_divmod) ∧ (type_of% @o_repr) ∧ (type_of% @o_isi) ∧ (type_of% @o_rep) ∧ (type_of% @o_find) ∧ (type_of% @o_sindex) ∧ (type_of% @o_join) ∧ (type_of% @o_joinT) ∧ (type_of% @o_tindex) ∧ (type_of% @o_lindex) ∧ (type_of% @o_in_t) ∧ (type_of% @o_notin_t) ∧ (type_of% @o_in_l) ∧ (type_of% @o_notin_l) ∧ (type_of% @o_in_s) ∧ (type_of% @o_count) ∧ (type_of% @o_bin) ∧ (type_of% @o_app) ∧ (type_of% @b_le) ∧ (type_of% @b_lt) ∧ (type_of% @b_gt) ∧ (type_of% @b_ge) ∧ (type_of% @o_items_l) ∧ (type_of% @o_items_t) ∧ (type_of% @o_items_s) ∧ (type_of% @o_seq_l) ∧ (type_of% @o_seq_t) ∧ (type_of% @o_sub_l) ∧ (type_of% @o_sub_t) ∧ (type_of% @o_slice_l) ∧ (type_of% @o_slice_t) ∧ (type_of% @o_slice_s) ∧ (type_of% @o_sub_s) ∧ (type_of% @o_ne_ln) ∧ (type_of% @o_eq_ln) ∧ (type_of% @o_ne_tn) ∧ (type_of% @o_eq_tn) :=
  ⟨@o_add, @o_add_s, @o_add_t, @o_add_l, @o_sub, @o_mul, @o_mul_t, @o_div, @o_mod, @o_shl, @o_shr, @o_and, @o_or, @o_xor, @o_neg, @o_eq, @o_ne, @o_eq_s, @o_ne_s, @o_lt, @o_le, @o_gt, @o_ge, @o_is, @o_isn, @o_is_b, @o_isn_b, @o_abs, @o_max, @o_min, @o_int, @o_tuple_l, @o_tuple_t, @o_list_l, @o_list_t, @o_divmod, @o_repr, @o_isi, @o_rep, @o_find, @o_sindex, @o_join, @o_joinT, @o_tindex, @o_lindex, @o_in_t, @o_notin_t, @o_in_l, @o_notin_l, @o_in_s, @o_count, @o_bin, @o_app, @b_le, @b_lt, @b_gt, @b_ge, @o_items_l, @o_items_t, @o_items_s, @o_seq_l, @o_seq_t, @o_sub_l, @o_sub_t, @o_slice_l, @o_slice_t, @o_slice_s, @o_sub_s, @o_ne_ln, @o_eq_ln, @o_ne_tn, @o_eq_tn⟩
theorem SC : (type_of% @c_add) ∧ (type_of% @c_mul) ∧ (type_of% @c_div) ∧ (type_of% @c_mod) ∧ (type_of% @c_lt) ∧ (type_of% @c_le) ∧ (type_of% @c_eq) ∧ (type_of% @c_0lt) ∧ (type_of% @c_0le) ∧ (type_of% @c_shl) ∧ (type_of% @c_shr) ∧ (type_of% @c_and) ∧ (type_of% @c_or) ∧ (type_of% @c_xor) ∧ (type_of% @c_max) ∧ (type_of% @c_min) ∧ (type_of% @c_abs) ∧ (type_of% @c_ne0) ∧ (type_of% @divOk_n) ∧ (type_of% @rngOk_n) ∧ (type_of% @cut_l) ∧ (type_of% @cut_r) ∧ (type_of% @cut_lr) ∧ (type_of% @cut_n) ∧ (type_of% @at_n) :=
  ⟨@c_add, @c_mul, @c_div, @c_mod, @c_lt, @c_le, @c_eq, @c_0lt, @c_0le, @c_shl, @c_shr, @c_and, @c_or, @c_xor, @c_max, @c_min, @c_abs, @c_ne0, @divOk_n, @rngOk_n, @cut_l, @cut_r, @cut_lr, @cut_n, @at_n⟩
end Ft
namespace Ft
open PySem PySem.Spec L2
theorem d_is_whole_ok : DnOk md d_is_whole where
  sc := by kernel_rfl
  body := by kernel_rfl
  bnd := fun kV doc pm an cdv ct us hl => match us, hl with | [_], _ => rfl
  bndk := fun q hq => by cases hq
theorem d_is_between_ok : DnOk md d_is_between where
  sc := by kernel_rfl
  body := by kernel_rfl
  bnd := fun kV doc pm an cdv ct us hl => match us, hl with | [_, _, _], _ => rfl
  bndk := fun q hq => by cases hq
theorem d_is_paged_ok : DnOk md d_is_paged where
  sc := by kernel_rfl
  body := by kernel_rfl
  bnd := fun kV doc pm an cdv ct us hl => match us, hl with | [_], _ => rfl
  bndk := fun q hq => by cases hq
theorem d_lies_within_ok : DnOk md d_lies_within where
  sc := by kernel_rfl
  body := by kernel_rfl
  bnd := fun kV doc pm an cdv ct us hl => match us, hl with | [_, _], _ => rfl
  bndk := fun q hq => by cases hq
theorem d_zeros_of_ok : DnOk md d_zeros_of where
  sc := by kernel_rfl
  body := by kernel_rfl
  bnd := fun kV doc pm an cdv ct us hl => match us, hl with | [_], _ => rfl
  bndk := fun q hq => by cases hq
theorem d_is_whole_page_ok : DnOk md d_is_whole_page where
  sc := by kernel_rfl
  body := by kernel_rfl
  bnd := fun kV doc pm an cdv ct us hl => match us, hl with | [_], _ => rfl
  bndk := fun q hq => by cases hq
theorem d_numbers_by_ok : DnOk md d_numbers_by where
  sc := by kernel_rfl
  body := by kernel_rfl
  bnd := fun kV doc pm an cdv ct us hl => match us, hl with | [_], _ => rfl
  bndk := fun q hq => by cases hq
theorem d_is_page_ok : DnOk md d_is_page where
  sc := by kernel_rfl
  body := by kernel_rfl
  bnd := fun kV doc pm an cdv ct us hl => match us, hl with | [_], _ => rfl
  bndk := fun q hq kV doc pm an cdv ct us uk h1 h2 => by
    simp only [d_is_page, List.mem_cons, List.not_mem_nil, or_false] at hq
    rcases hq with rfl
    · match us, uk, h1, h2 with | [], [_], _, _ => exact ⟨_, rfl, rfl⟩
theorem d_check_page_ok : DnOk md d_check_page where
  sc := by kernel_rfl
  body := by kernel_rfl
  bnd := fun kV doc pm an cdv ct us hl => match us, hl with | [_], _ => rfl
  bndk := fun q hq => by cases hq
theorem d_is_blank_ok : DnOk md d_is_blank where
  sc := by kernel_rfl
  body := by kernel_rfl
  bnd := fun kV doc pm an cdv ct us hl => match us, hl with | [_], _ => rfl
  bndk := fun q hq kV doc pm an cdv ct us uk h1 h2 => by
    simp only [d_is_blank, List.mem_cons, List.not_mem_nil, or_false] at hq
    rcases hq with rfl
    · match us, uk, h1, h2 with | [], [_], _, _ => exact ⟨_, rfl, rfl⟩
theorem d_is_within_ok : DnOk md d_is_within where
  sc := by kernel_rfl
  body := by kernel_rfl
  bnd := fun kV doc pm an cdv ct us hl => match us, hl with | [_, _], _ => rfl
  bndk := fun q hq kV doc pm an cdv ct us uk h1 h2 => by
    simp only [d_is_within, List.mem_cons, List.not_mem_nil, or_false] at hq
    rcases hq with rfl
    · match us, uk, h1, h2 with | [], [_, _], _, _ => exact ⟨_, rfl, rfl⟩
theorem d_zeros_in_ok : DnOk md d_zeros_in where
  sc := by kernel_rfl
  body := by kernel_rfl
  bnd := fun kV doc pm an cdv ct us hl => match us, hl with | [_], _ => rfl
  bndk := fun q hq kV doc pm an cdv ct us uk h1 h2 => by
    simp only [d_zeros_in, List.mem_cons, List.not_mem_nil, or_false] at hq
    rcases hq with rfl
    · match us, uk, h1, h2 with | [], [_], _, _ => exact ⟨_, rfl, rfl⟩
theorem d_state_of_ok : DnOk md d_state_of where
  sc := by kernel_rfl
  body := by kernel_rfl
  bnd := fun kV doc pm an cdv ct us hl => match us, hl with | [_], _ => rfl
  bndk := fun q hq kV doc pm an cdv ct us uk h1 h2 => by
    simp only [d_state_of, List.mem_cons, List.not_mem_nil, or_false] at hq
    rcases hq with rfl
    · match us, uk, h1, h2 with | [], [_], _, _ => exact ⟨_, rfl, rfl⟩
theorem d_told_by_ok : DnOk md d_told_by where
  sc := by kernel_rfl
  body := by kernel_rfl
  bnd := fun kV doc pm an cdv ct us hl => match us, hl with | [_], _ => rfl
  bndk := fun q hq kV doc pm an cdv ct us uk h1 h2 => by
    simp only [d_told_by, List.mem_cons, List.not_mem_nil, or_false] at hq
    rcases hq with rfl
    · match us, uk, h1, h2 with | [], [_], _, _ => exact ⟨_, rfl, rfl⟩
theorem d_l_spring_13_ok : DnOk md d_l_spring_13 where
  sc := by kernel_rfl
  body := by kernel_rfl
  bnd := fun kV doc pm an cdv ct us hl => match us, hl with | [_, _], _ => rfl
  bndk := fun q hq => by cases hq
theorem d_l_draw_ok : DnOk md d_l_draw where
  sc := by kernel_rfl
  body := by kernel_rfl
  bnd := fun kV doc pm an cdv ct us hl => match us, hl with | [_, _], _ => rfl
  bndk := fun q hq => by cases hq
theorem d_l_pick_ok : DnOk md d_l_pick where
  sc := by kernel_rfl
  body := by kernel_rfl
  bnd := fun kV doc pm an cdv ct us hl => match us, hl with | [_, _], _ => rfl
  bndk := fun q hq => by cases hq
theorem d_l_bits_ok : DnOk md d_l_bits where
  sc := by kernel_rfl
  body := by kernel_rfl
  bnd := fun kV doc pm an cdv ct us hl => match us, hl with | [_], _ => rfl
  bndk := fun q hq => by cases hq
theorem d_l_row_ok : DnOk md d_l_row where
  sc := by kernel_rfl
  body := by kernel_rfl
  bnd := fun kV doc pm an cdv ct us hl => match us, hl with | [_], _ => rfl
  bndk := fun q hq => by cases hq
theorem d_l_ones_ok : DnOk md d_l_ones where
  sc := by kernel_rfl
  body := by kernel_rfl
  bnd := fun kV doc pm an cdv ct us hl => match us, hl with | [_], _ => rfl
  bndk := fun q hq => by cases hq
theorem d_l_word_ok : DnOk md d_l_word where
  sc := by kernel_rfl
  body := by kernel_rfl
  bnd := fun kV doc pm an cdv ct us hl => match us, hl with | [_], _ => rfl
  bndk := fun q hq => by cases hq
theorem d_l_numbers_ok : DnOk md d_l_numbers where
  sc := by kernel_rfl
  body := by kernel_rfl
  bnd := fun kV doc pm an cdv ct us hl => match us, hl with | [_], _ => rfl
  bndk := fun q hq => by cases hq
theorem d_l_data_ok : DnOk md d_l_data where
  sc := by kernel_rfl
  body := by kernel_rfl
  bnd := fun kV doc pm an cdv ct us hl => match us, hl with | [_], _ => rfl
  bndk := fun q hq => by cases hq
theorem d_l_whole_ok : DnOk md d_l_whole where
  sc := by kernel_rfl
  body := by kernel_rfl
  bnd := fun kV doc pm an cdv ct us hl => match us, hl with | [_], _ => rfl
  bndk := fun q hq => by cases hq
theorem d_l_any_ok : DnOk md d_l_any where
  sc := by kernel_rfl
  body := by kernel_rfl
  bnd := fun kV doc pm an cdv ct us hl => match us, hl with | [_], _ => rfl
  bndk := fun q hq => by cases hq
theorem d_l_odd_2_ok : DnOk md d_l_odd_2 where
  sc := by kernel_rfl
  body := by kernel_rfl
  bnd := fun kV doc pm an cdv ct us hl => match us, hl with | [_], _ => rfl
  bndk := fun q hq => by cases hq
theorem d_l_told_by_ok : DnOk md d_l_told_by where
  sc := by kernel_rfl
  body := by kernel_rfl
  bnd := fun kV doc pm an cdv ct us hl => match us, hl with | [_], _ => rfl
  bndk := fun q hq => by cases hq
theorem d_l_things_ok : DnOk md d_l_things where
  sc := by kernel_rfl
  body := by kernel_rfl
  bnd := fun kV doc pm an cdv ct us hl => match us, hl with | [_, _], _ => rfl
  bndk := fun q hq => by cases hq
theorem d_l_is_page_ok : DnOk md d_l_is_page where
  sc := by kernel_rfl
  body := by kernel_rfl
  bnd := fun kV doc pm an cdv ct us hl => match us, hl with | [_], _ => rfl
  bndk := fun q hq => by cases hq
theorem d_l_page_right_2_ok : DnOk md d_l_page_right_2 where
  sc := by kernel_rfl
  body := by kernel_rfl
  bnd := fun kV doc pm an cdv ct us hl => match us, hl with | [_], _ => rfl
  bndk := fun q hq => by cases hq
theorem d_l_right_17_ok : DnOk md d_l_right_17 where
  sc := by kernel_rfl
  body := by kernel_rfl
  bnd := fun kV doc pm an cdv ct us hl => match us, hl with | [_], _ => rfl
  bndk := fun q hq => by cases hq
theorem d_l_law_17_ok : DnOk md d_l_law_17 where
  sc := by kernel_rfl
  body := by kernel_rfl
  bnd := fun kV doc pm an cdv ct us hl => match us, hl with | [_], _ => rfl
  bndk := fun q hq => by cases hq
theorem all_ok : ∀ d ∈ md.ds, DnOk md d := by
  intro d hd
  have hd : d ∈ [d_is_whole, d_is_between, d_is_paged, d_lies_within, d_zeros_of, d_is_whole_page, d_numbers_by, d_is_page, d_check_page, d_is_blank, d_is_within, d_zeros_in, d_state_of, d_told_by, d_l_spring_13, d_l_draw, d_l_pick, d_l_bits, d_l_row, d_l_ones, d_l_word, d_l_numbers, d_l_data, d_l_whole, d_l_any, d_l_odd_2, d_l_told_by, d_l_things, d_l_is_page, d_l_page_right_2, d_l_right_17, d_l_law_17] := hd
  simp only [List.mem_cons, List.not_mem_nil, or_false] at hd
  rcases hd with rfl | rfl | rfl | rfl | rfl | rfl | rfl | rfl | rfl | rfl | rfl | rfl | rfl | rfl | rfl | rfl | rfl | rfl | rfl | rfl | rfl | rfl | rfl | rfl | rfl | rfl | rfl | rfl | rfl | rfl | rfl | rfl
  · exact d_is_whole_ok
  · exact d_is_between_ok
  · exact d_is_paged_ok
  · exact d_lies_within_ok
  · exact d_zeros_of_ok
  · exact d_is_whole_page_ok
  · exact d_numbers_by_ok
  · exact d_is_page_ok
  · exact d_check_page_ok
  · exact d_is_blank_ok
  · exact d_is_within_ok
  · exact d_zeros_in_ok
  · exact d_state_of_ok
  · exact d_told_by_ok
  · exact d_l_spring_13_ok
  · exact d_l_draw_ok
  · exact d_l_pick_ok
  · exact d_l_bits_ok
  · exact d_l_row_ok
  · exact d_l_ones_ok
  · exact d_l_word_ok
  · exact d_l_numbers_ok
  · exact d_l_data_ok
  · exact d_l_whole_ok
  · exact d_l_any_ok
  · exact d_l_odd_2_ok
  · exact d_l_told_by_ok
  · exact d_l_things_ok
  · exact d_l_is_page_ok
  · exact d_l_page_right_2_ok
  · exact d_l_right_17_ok
  · exact d_l_law_17_ok
def gl : List (Nat × Fn) := ([(i_l_draw, F_l_draw), (i_l_pick, F_l_pick), (i_l_row, F_l_row), (i_l_ones, F_l_ones), (i_l_word, F_l_word), (i_l_numbers, F_l_numbers), (i_l_told_by, F_l_told_by), (i_l_data, F_l_data), (i_l_whole, F_l_whole), (i_l_bits, F_l_bits), (i_is_whole, F_is_whole), (i_is_between, F_is_between), (i_wrong_in_numbers, F_wrong_in_numbers), (i_is_paged, F_is_paged), (i_zeros_of, F_zeros_of), (i_is_whole_page, F_is_whole_page), (i_page_by, F_page_by), (i_numbers_by, F_numbers_by), (i_lies_within, F_lies_within), (i_behind_program, F_behind_program), (i_behind_erase, F_behind_erase), (i_is_clash, F_is_clash), (i_clash_in, F_clash_in), (i_is_page, F_is_page), (i_check_page, F_check_page), (i_zeros_in, F_zeros_in), (i_state_of, F_state_of), (i_word_of, F_word_of), (i_told_by, F_told_by), (i_is_blank, F_is_blank)] : List (Nat × Fn)) ++ ([(i_is_within, F_is_within), (i_check_mask, F_check_mask), (i_programmed, F_programmed), (i_erased, F_erased), (i_clash, F_clash), (i_program_may_leave, F_program_may_leave), (i_l_spring_13, F_l_spring_13), (i_l_any, F_l_any), (i_l_odd_2, F_l_odd_2), (i_l_things, F_l_things), (i_l_is_page, F_l_is_page), (i_l_page_right_2, F_l_page_right_2), (i_l_right_17, F_l_right_17), (i_l_law_17, F_l_law_17)] : List (Nat × Fn))
def G : Tbl := tblOf gl
instance : C_la G where
  x_l_draw := by kernel_rfl
  x_l_pick := by kernel_rfl
instance : C_lp G where
  x_l_row := by kernel_rfl
  x_l_ones := by kernel_rfl
  x_l_word := by kernel_rfl
  x_l_numbers := by kernel_rfl
  x_l_told_by := by kernel_rfl
  x_l_data := by kernel_rfl
  x_l_whole := by kernel_rfl
  x_l_bits := by kernel_rfl
instance : C_m_values G where
  x_is_whole := by kernel_rfl
  x_is_between := by kernel_rfl
  x_wrong_in_numbers := by kernel_rfl
instance : C_m_pagework G where
  x_is_paged := by kernel_rfl
  x_zeros_of := by kernel_rfl
  x_is_whole_page := by kernel_rfl
  x_page_by := by kernel_rfl
  x_numbers_by := by kernel_rfl
  x_lies_within := by kernel_rfl
  x_behind_program := by kernel_rfl
  x_behind_erase := by kernel_rfl
  x_is_clash := by kernel_rfl
  x_clash_in := by kernel_rfl
instance : C_m_page1 G where
  x_is_page := by kernel_rfl
instance : C_m_pages G where
  x_check_page := by kernel_rfl
  x_zeros_in := by kernel_rfl
  x_state_of := by kernel_rfl
  x_word_of := by kernel_rfl
  x_told_by := by kernel_rfl
  x_is_blank := by kernel_rfl
  x_is_within := by kernel_rfl
  x_check_mask := by kernel_rfl
  x_programmed := by kernel_rfl
  x_erased := by kernel_rfl
  x_clash := by kernel_rfl
  x_program_may_leave := by kernel_rfl
instance : C_x_k03 G where
  x_l_spring_13 := by kernel_rfl
  x_l_any := by kernel_rfl
  x_l_odd_2 := by kernel_rfl
  x_l_things := by kernel_rfl
  x_l_is_page := by kernel_rfl
  x_l_page_right_2 := by kernel_rfl
  x_l_right_17 := by kernel_rfl
  x_l_law_17 := by kernel_rfl
theorem hT : ∀ d ∈ md.ds, G d.ix = some d.fn := by
  intro d hd
  have hd : d ∈ [d_is_whole, d_is_between, d_is_paged, d_lies_within, d_zeros_of, d_is_whole_page, d_numbers_by, d_is_page, d_check_page, d_is_blank, d_is_within, d_zeros_in, d_state_of, d_told_by, d_l_spring_13, d_l_draw, d_l_pick, d_l_bits, d_l_row, d_l_ones, d_l_word, d_l_numbers, d_l_data, d_l_whole, d_l_any, d_l_odd_2, d_l_told_by, d_l_things, d_l_is_page, d_l_page_right_2, d_l_right_17, d_l_law_17] := hd
  simp only [List.mem_cons, List.not_mem_nil, or_false] at hd
  rcases hd with rfl | rfl | rfl | rfl | rfl | rfl | rfl | rfl | rfl | rfl | rfl | rfl | rfl | rfl | rfl | rfl | rfl | rfl | rfl | rfl | rfl | rfl | rfl | rfl | rfl | rfl | rfl | rfl | rfl | rfl | rfl | rfl
  · exact C_m_values.x_is_whole
  · exact C_m_values.x_is_between
  · exact C_m_pagework.x_is_paged
  · exact C_m_pagework.x_lies_within
  · exact C_m_pagework.x_zeros_of
  · exact C_m_pagework.x_is_whole_page
  · exact C_m_pagework.x_numbers_by
  · exact C_m_page1.x_is_page
  · exact C_m_pages.x_check_page
  · exact C_m_pages.x_is_blank
  · exact C_m_pages.x_is_within
  · exact C_m_pages.x_zeros_in
  · exact C_m_pages.x_state_of
  · exact C_m_pages.x_told_by
  · exact C_x_k03.x_l_spring_13
  · exact C_la.x_l_draw
  · exact C_la.x_l_pick
  · exact C_lp.x_l_bits
  · exact C_lp.x_l_row
  · exact C_lp.x_l_ones
  · exact C_lp.x_l_word
  · exact C_lp.x_l_numbers
  · exact C_lp.x_l_data
  · exact C_lp.x_l_whole
  · exact C_x_k03.x_l_any
  · exact C_x_k03.x_l_odd_2
  · exact C_lp.x_l_told_by
  · exact C_x_k03.x_l_things
  · exact C_x_k03.x_l_is_page
  · exact C_x_k03.x_l_page_right_2
  · exact C_x_k03.x_l_right_17
  · exact C_x_k03.x_l_law_17
theorem kds : Kds G := by
  refine kds_of (ds := [i_l_draw]) (ws := [i_l_spring_13]) (by kernel_rfl) (by kernel_rfl) ?_ ?_
  · intro i fd hi hg
    simp only [List.mem_cons, List.not_mem_nil, or_false] at hi
    rcases hi with rfl
    · cases hg.symm.trans (C_la.x_l_draw (G := G))
      exact drawOk_of (fd := F_l_draw) rfl rfl rfl rfl (by decide) (by decide) (by decide) (by decide) (by decide) (by decide)
  · intro i fd hi hg
    simp only [List.mem_cons, List.not_mem_nil, or_false] at hi
    rcases hi with rfl
    · cases hg.symm.trans (C_x_k03.x_l_spring_13 (G := G))
      exact wellOk_of (fd := F_l_spring_13) (tl := .nil) (ws := []) rfl rfl rfl rfl rfl (by decide) (by decide) (by decide) (by decide) (by decide) (by decide) (by decide) (by decide) (by decide) (fun F τ S => by simp only [evs, ev, Res.bind_ok, List.map_cons, List.map_nil]) rfl (by decide)
theorem caps : ∀ i fd, G i = some fd → nB 1 fd.body ≤ 2 ^ 250 := caps_of (by decide +kernel)
end Ft
namespace Ft
open PySem PySem.Spec L2
/-- how many of the lowest k bits are 1 -/
def pcA : Nat → Nat → Nat
  | 0, _ => 0
  | k + 1, x => x % 2 + pcA k (x / 2)
@[irreducible] def pc (k x : Nat) : Nat := pcA k x
theorem pc_0 (x : Nat) : pc 0 x = 0 := by unfold pc; rfl
theorem pc_succ (k x : Nat) : pc (k + 1) x = x % 2 + pc k (x / 2) := by unfold pc; rfl
theorem pc_le : ∀ (k x : Nat), pc k x ≤ k
  | 0, _ => by rw [pc_0]; exact Nat.le_refl _
  | k + 1, x => by
    have := pc_le k (x / 2)
    rw [pc_succ]
    omega
theorem pc_zero : ∀ k, pc k 0 = 0
  | 0 => pc_0 0
  | k + 1 => by rw [pc_succ, Nat.zero_div, pc_zero k]
/-- one 1 less -/
theorem pc_pred : ∀ (k x : Nat), 0 < x → x < 2 ^ k → pc k (x &&& (x - 1)) + 1 = pc k x
  | 0, x, h0, h => by simp at h; omega
  | k + 1, x, h0, h => by
    rw [pc_succ, pc_succ]
    have h1 : (x &&& (x - 1)) / 2 = x / 2 &&& (x - 1) / 2 := Nat.and_div_two
    have h2 : (x &&& (x - 1)) % 2 = x % 2 &&& (x - 1) % 2 := by
      have := Nat.and_mod_two_pow (a := x) (b := x - 1) (n := 1)
      simpa using this
    rw [h1, h2]
    rcases Nat.mod_two_eq_zero_or_one x with e | e
    · have e1 : (x - 1) / 2 = x / 2 - 1 := by omega
      have := pc_pred k (x / 2) (by omega) (by rw [Nat.pow_succ] at h; omega)
      rw [e, e1, Nat.zero_and]
      omega
    · have e1 : (x - 1) / 2 = x / 2 := by omega
      have e2 : (x - 1) % 2 = 0 := by omega
      rw [e, e1, e2, Nat.and_self]
      simp
      omega
open StrLaws Builtin.Str in
theorem occ_count (x : Str) (c : Nat) (lim : Nat) : ∀ (l : List Nat) (i0 : Nat) (n : Nat) (st : Array Nat × Nat), l = List.range' i0 n → st.2 ≤ i0 → st.1.size + n ≤ lim → i0 + n = x.length + 1 → ((forIn l st (occBody x ⟨#[c]⟩ x.length lim)).run.fst).size = st.1.size + (x.cps.toList.drop i0).count c
  | [], i0, n, st, hl, h1, h2, h3 => by
    have hn : n = 0 := by
      cases n with
      | zero => rfl
      | succ n => simp [List.range'_succ] at hl
    have : x.cps.toList.drop i0 = [] := List.drop_eq_nil_of_le (by simp [Str.length] at h3 ⊢; omega)
    rw [this]
    rfl
  | a :: l, i0, 0, st, hl, h1, h2, h3 => by simp at hl
  | a :: l, i0, n + 1, st, hl, h1, h2, h3 => by
    rw [List.range'_succ] at hl
    injection hl with ha hl
    subst ha
    rw [List.forIn_cons]
    unfold occBody
    have hs := subAt_one x c a
    by_cases q : x.cps.toList[a]? = some c
    · have q' := hs.mpr q
      rw [if_pos ⟨⟨⟨by omega, h1⟩, q'.1⟩, q'.2⟩]
      have ih := occ_count x c lim l (a + 1) n (st.1.push a, a + 1) hl (by simp) (by simp; omega) (by omega)
      refine Eq.trans ih ?_
      obtain ⟨hlt, hq⟩ := List.getElem?_eq_some_iff.mp q
      rw [List.drop_eq_getElem_cons hlt, hq, List.count_cons_self]
      simp
      omega
    · have q' : ¬ (((st.1.size < lim ∧ st.2 ≤ a) ∧ a + (⟨#[c]⟩ : Str).length ≤ x.length) ∧ subAt x ⟨#[c]⟩ a = true) := fun z => q (hs.mp ⟨z.1.2, z.2⟩)
      rw [if_neg q']
      have ih := occ_count x c lim l (a + 1) n (st.1, st.2) hl (by dsimp only; omega) (by dsimp only; omega) (by omega)
      refine Eq.trans ih ?_
      by_cases hlt : a < x.cps.toList.length
      · rw [List.drop_eq_getElem_cons hlt, List.count_cons_of_ne]
        intro e
        exact q (by rw [List.getElem?_eq_getElem hlt, e])
      · rw [List.drop_eq_nil_of_le (by omega), List.drop_eq_nil_of_le (by omega)]
theorem count_sign (x : Str) (c : Nat) : Txt.count x ⟨#[c]⟩ = ((x.cps.toList.count c : Nat) : Int) := by
  unfold Txt.count
  rw [StrLaws.occ_eq]
  rw [Array.length_toList]
  have z := occ_count x c (x.length + 1) (List.range' 0 (x.length + 1)) 0 (x.length + 1) (#[], 0) rfl (Nat.le_refl _) (by simp) (by omega)
  rw [Nat.sub_zero, z]
  simp
theorem bin_list (a : Nat) : (binS (a : Int)).cps.toList = (Nat.toDigits 2 a).map (·.toNat) := by
  unfold binS PyProof.Rows.intField'
  simp only [fB_g, fB_w, fB_a, fB_s]
  have h : ¬ ((a : Int) < 0) := by omega
  simp [h]
theorem digits_count : ∀ (fuel k n : Nat) (ds : List Char), n < fuel → n < 2 ^ k → (Nat.toDigitsCore 2 fuel n ds).count '1' = pc k n + ds.count '1'
  | 0, k, n, ds, h, _ => by omega
  | fuel + 1, 0, n, ds, h, hk => by
    have : n = 0 := by simpa using hk
    subst this
    unfold Nat.toDigitsCore
    simp [pc_0, Nat.digitChar]
  | fuel + 1, k + 1, n, ds, h, hk => by
    unfold Nat.toDigitsCore
    rw [pc_succ]
    have hd : (Nat.digitChar (n % 2) :: ds).count '1' = n % 2 + ds.count '1' := by
      rcases Nat.mod_two_eq_zero_or_one n with e | e
      · rw [e]
        have : Nat.digitChar 0 = '0' := rfl
        rw [this, List.count_cons_of_ne (by decide)]
        omega
      · rw [e]
        have : Nat.digitChar 1 = '1' := rfl
        rw [this, List.count_cons_self]
        omega
    dsimp only
    split
    · rename_i h0
      rw [hd, h0, pc_zero]
      omega
    · rename_i h0
      rw [digits_count fuel k (n / 2) _ (by omega) (by rw [Nat.pow_succ] at hk; omega), hd]
      omega
theorem bin_ones {k a : Nat} (h : a < 2 ^ k) : (binS (a : Int)).cps.toList.count 49 = pc k a := by
  rw [bin_list]
  have e : ∀ l : List Char, (l.map (·.toNat)).count 49 = l.count '1' := fun l => by
    induction l with
    | nil => rfl
    | cons x r ih =>
      rw [List.map_cons]
      by_cases q : x = '1'
      · subst q
        rw [show ('1' : Char).toNat = 49 from rfl, List.count_cons_self, List.count_cons_self, ih]
      · have hq : x.toNat ≠ 49 := fun z => q (Char.toNat_inj.mp (z.trans (show 49 = ('1' : Char).toNat from rfl)))
        rw [List.count_cons_of_ne hq, List.count_cons_of_ne q, ih]
  rw [e]
  unfold Nat.toDigits
  rw [digits_count (a + 1) k a [] (by omega) h]
  simp
end Ft
namespace Ft
open PySem PySem.Spec L2
section
variable {G : Tbl} [C_la G] {k n : Nat} {S : Sto} {Q : Qv} {X : Xv}
theorem l_draw_n {m : Nat} : wcalls G (k + 1) i_l_draw [.ref n, .d (.int (m : Int))] S Q X = (S[n]? = some .tok ∧ 0 < m ∧ m < 4611686018427387904 ∧ ∀ d : Nat, d < m → Q (.d (.int (d : Int))) S) :=
  w_draw (fd := F_l_draw) C_la.x_l_draw rfl rfl
/-- one of some -/
theorem pick_all {xs : List D} {P : D → Prop} : (∀ d : Nat, d < xs.length → oP (xs[d]?) P) = ∀ z ∈ xs, P z := by
  apply propext
  constructor
  · intro h z hz
    obtain ⟨d, hd, e⟩ := List.mem_iff_getElem.mp hz
    have := h d hd
    rw [List.getElem?_eq_getElem hd, e] at this
    exact this
  · intro h d hd
    rw [List.getElem?_eq_getElem hd]
    exact h _ (List.getElem_mem hd)
theorem l_pick_n {xs : List D} (hn : S[n]? = some .tok) : wcalls G (k + 2) i_l_pick [.ref n, .d (.tuple xs)] S Q X = (0 < xs.length ∧ xs.length < 4611686018427387904 ∧ ∀ z ∈ xs, Q (.d z) S) := by
  rw [w_fn1 (fd := F_l_pick) (C_la.x_l_pick) rfl rfl rfl rfl hn]
  simp only [F_l_pick, begin_, List.map_cons, List.map_nil, List.length_cons, List.length_nil, Nat.reduceAdd, Nat.reduceSub, List.replicate_succ, List.replicate_zero, List.cons_append, List.nil_append, isoIn]
  unfold B_l_pick
  try simp only [Nat.zero_le, pickx, pick, List.getElem?_cons_zero, List.getElem?_cons_succ, List.isEmpty_nil, List.isEmpty_cons, List.isEmpty_map, shaped_t0, shaped_l0, eq_self, List.length_map, ST, SO, SC, retP_d, retT_d, tokX_c, if_true, if_false, true_and, and_true, decide_true, decide_false, Bool.false_eq_true, Bool.not_true, Bool.not_false, decide_eq_true_eq, List.length_cons, List.length_nil, Nat.reduceAdd, Nat.reduceLeDiff, Nat.reduceLT, Nat.reduceMul, Nat.reduceSub, sizeLine_n, List.cons_append, List.nil_append, List.map_cons, List.map_nil, l_draw_n]
  rw [pick_all]
end
end Ft
namespace Ft
open PySem PySem.Spec L2
section
variable {G : Tbl} [C_m_values G] {k : Nat} {S : Sto} {Q : Qv} {X : Xv}
theorem is_whole_n {x : Int} : wcalls G (k + 1) i_is_whole [.d (.int x)] S Q X = Q (.d (.bool true)) S := by
  rw [w_fn0 (fd := F_is_whole) C_m_values.x_is_whole rfl rfl rfl rfl rfl]
  simp only [F_is_whole, begin_, List.map_cons, List.map_nil, List.length_cons, List.length_nil, Nat.reduceAdd, Nat.reduceSub, List.replicate_succ, List.replicate_zero, List.cons_append, List.nil_append, isoIn]
  unfold B_is_whole
  try simp only [Nat.zero_le, pickx, pick, List.getElem?_cons_zero, List.getElem?_cons_succ, List.isEmpty_nil, List.isEmpty_cons, List.isEmpty_map, shaped_t0, shaped_l0, eq_self, List.length_map, ST, SO, SC, retP_d, retT_d, tokX_c, if_true, if_false, true_and, and_true, decide_true, decide_false, Bool.false_eq_true, Bool.not_true, Bool.not_false, decide_eq_true_eq, List.length_cons, List.length_nil, Nat.reduceAdd, Nat.reduceLeDiff, Nat.reduceLT, Nat.reduceMul, Nat.reduceSub, sizeLine_n, List.cons_append, List.nil_append, List.map_cons, List.map_nil, Ty.of]
theorem is_between_n {x lo hi : Int} : wcalls G (k + 2) i_is_between [.d (.int x), .d (.int lo), .d (.int hi)] S Q X = Q (.d (.bool (decide (lo ≤ x ∧ x ≤ hi)))) S := by
  rw [w_fn0 (fd := F_is_between) C_m_values.x_is_between rfl rfl rfl rfl rfl]
  simp only [F_is_between, begin_, List.map_cons, List.map_nil, List.length_cons, List.length_nil, Nat.reduceAdd, Nat.reduceSub, List.replicate_succ, List.replicate_zero, List.cons_append, List.nil_append, isoIn]
  unfold B_is_between
  try simp only [Nat.zero_le, pickx, pick, List.getElem?_cons_zero, List.getElem?_cons_succ, List.isEmpty_nil, List.isEmpty_cons, List.isEmpty_map, shaped_t0, shaped_l0, eq_self, List.length_map, ST, SO, SC, retP_d, retT_d, tokX_c, if_true, if_false, true_and, and_true, decide_true, decide_false, Bool.false_eq_true, Bool.not_true, Bool.not_false, decide_eq_true_eq, List.length_cons, List.length_nil, Nat.reduceAdd, Nat.reduceLeDiff, Nat.reduceLT, Nat.reduceMul, Nat.reduceSub, sizeLine_n, List.cons_append, List.nil_append, List.map_cons, List.map_nil, is_whole_n]
  by_cases h : lo ≤ x
  · try simp only [Nat.zero_le, pickx, pick, List.getElem?_cons_zero, List.getElem?_cons_succ, List.isEmpty_nil, List.isEmpty_cons, List.isEmpty_map, shaped_t0, shaped_l0, eq_self, List.length_map, ST, SO, SC, retP_d, retT_d, tokX_c, if_true, if_false, true_and, and_true, decide_true, decide_false, Bool.false_eq_true, Bool.not_true, Bool.not_false, decide_eq_true_eq, List.length_cons, List.length_nil, Nat.reduceAdd, Nat.reduceLeDiff, Nat.reduceLT, Nat.reduceMul, Nat.reduceSub, sizeLine_n, List.cons_append, List.nil_append, List.map_cons, List.map_nil, h]
  · try simp only [Nat.zero_le, pickx, pick, List.getElem?_cons_zero, List.getElem?_cons_succ, List.isEmpty_nil, List.isEmpty_cons, List.isEmpty_map, shaped_t0, shaped_l0, eq_self, List.length_map, ST, SO, SC, retP_d, retT_d, tokX_c, if_true, if_false, true_and, and_true, decide_true, decide_false, Bool.false_eq_true, Bool.not_true, Bool.not_false, decide_eq_true_eq, List.length_cons, List.length_nil, Nat.reduceAdd, Nat.reduceLeDiff, Nat.reduceLT, Nat.reduceMul, Nat.reduceSub, sizeLine_n, List.cons_append, List.nil_append, List.map_cons, List.map_nil, h, false_and]
end
end Ft
namespace Ft
open PySem PySem.Spec L2
theorem toDigits_len {k n : Nat} (hk : 1 ≤ k) (hn : n < 2 ^ k) : (Nat.toDigits 2 n).length ≤ k := PySem.toDigits_len_pow (by decide) hk hn
theorem binS_len {k n : Nat} (hk : 1 ≤ k) (hn : n < 2 ^ k) : (binS (n : Int)).length ≤ k := by
  have e : (binS (n : Int)).length = (binS (n : Int)).cps.toList.length := by simp [Str.length]
  rw [e, bin_list, List.length_map]
  exact toDigits_len hk hn
theorem sign_1 : ("1" : Str) = ⟨#[49]⟩ := rfl
/-- the bits 0 of a page's data -/
def dw : Nat := 512
def zer (x : Nat) : Nat := 512 - pc dw (x / 1024)
def wd : Nat := 522
def kB : Nat := 1000
abbrev BL : Nat := 13729595320261219429963801598162786434538870600286610818788926918371086366795312104245119281322909109954592622782961716074243975999433287625148056582230114303
theorem BLwd : BL + 1 = 2 ^ wd := by decide +kernel
theorem le_bl {x : Nat} : x ≤ BL ↔ x < 2 ^ wd := by have := BLwd; omega
theorem data_lt {x : Nat} (h : x < 2 ^ wd) : x / 1024 < 2 ^ dw := by
  have : 2 ^ wd = 2 ^ dw * 1024 := by decide +kernel
  omega
theorem page_lt {d c : Nat} (h : d < 2 ^ dw) (hc : c < 1024) : d * 1024 + c < 2 ^ wd := by
  have : 2 ^ wd = 2 ^ dw * 1024 := by decide +kernel
  omega
theorem c_zer (x : Nat) : ((512 : Nat) : Int) - (pc dw (x / 1024) : Int) = (zer x : Int) := c_sub (a := 512) (b := pc dw (x / 1024)) (pc_le dw _)
theorem and_65535 (a : Nat) : a &&& 65535 = a % 65536 := Nat.and_two_pow_sub_one_eq_mod a 16
theorem zer_le (x : Nat) : zer x ≤ 512 := by unfold zer; omega
/-- a whole page -/
def isW (x : Nat) : Bool := decide (x % 1024 = zer x)
/-- what pages tell -/
def foldN (ns : List Nat) (a : Nat) : Nat := ns.foldl (fun d n => d * 2 ^ 16 + n) a
def dataN (ns : List Nat) : Nat := foldN ns ns.length * 2 ^ (16 * (31 - ns.length))
def wordN (ns : List Nat) : Nat := dataN ns * 1024 + zer (dataN ns * 1024)
def unitsOf (d : Nat) : List Nat := (List.range 32).map fun k => d / 2 ^ (16 * (31 - k)) &&& 65535
def toldU (us : List Nat) : Option (List Nat) := match us[0]? with
  | none => none
  | some m => if (decide (31 < m) || (us.drop (m + 1)).any fun n => !decide (n = 0)) = true then none else some ((us.drop 1).take m)
def toldN (x : Nat) : Option (List Nat) := if isW x = true then toldU (unitsOf (x / 1024)) else none
def encO (o : Option (List Nat)) : D := match o with
  | none => .none
  | some ns => .tuple (ns.map dn)
theorem foldN_lt : ∀ (ns : List Nat) (a j : Nat), a < 2 ^ j → (∀ n ∈ ns, n < 65536) → foldN ns a < 2 ^ (j + 16 * ns.length)
  | [], a, j, h, _ => by simpa [foldN] using h
  | n :: r, a, j, h, hn => by
    have h0 := hn n (List.mem_cons_self ..)
    have : a * 2 ^ 16 + n < 2 ^ (j + 16) := by rw [Nat.pow_add]; omega
    have z := foldN_lt r _ _ this fun m hm => hn m (List.mem_cons_of_mem _ hm)
    rw [List.length_cons, show j + 16 * (r.length + 1) = j + 16 + 16 * r.length by omega]
    exact z
theorem dataN_lt {ns : List Nat} (hl : ns.length ≤ 31) (hn : ∀ n ∈ ns, n < 65536) : dataN ns < 2 ^ dw := by
  have z := foldN_lt ns ns.length 16 (by omega) hn
  have e : 2 ^ dw = 2 ^ (16 + 16 * ns.length) * 2 ^ (16 * (31 - ns.length)) := by
    rw [← Nat.pow_add]
    congr 1
    show 512 = _
    omega
  rw [e]
  exact Nat.mul_lt_mul_of_pos_right z (Nat.two_pow_pos _)
theorem foldl_pair (o : Nat → Option W) : ∀ (ns : List Nat) (a : Nat) (w : Option W), (ns.foldl (fun (a : Nat × Option W) n => (a.1 * 2 ^ 16 + n, o n)) (a, w)).1 = foldN ns a
  | [], _, _ => rfl
  | n :: r, a, w => foldl_pair o r _ _
section
variable {G : Tbl} [C_m_pagework G] {k : Nat} {S : Sto} {Q : Qv} {X : Xv}
theorem is_paged_n {x : Nat} : wcalls G (k + 3) i_is_paged [.d (.int (x : Int))] S Q X = Q (.d (.bool (decide (x < 2 ^ wd)))) S := by
  rw [w_fn0 (fd := F_is_paged) C_m_pagework.x_is_paged rfl rfl rfl rfl rfl]
  simp only [F_is_paged, begin_, List.map_cons, List.map_nil, List.length_cons, List.length_nil, Nat.reduceAdd, Nat.reduceSub, List.replicate_succ, List.replicate_zero, List.cons_append, List.nil_append, isoIn]
  unfold B_is_paged
  try simp only [Nat.zero_le, pickx, pick, List.getElem?_cons_zero, List.getElem?_cons_succ, List.isEmpty_nil, List.isEmpty_cons, List.isEmpty_map, shaped_t0, shaped_l0, eq_self, List.length_map, ST, SO, SC, retP_d, retT_d, tokX_c, if_true, if_false, true_and, and_true, decide_true, decide_false, Bool.false_eq_true, Bool.not_true, Bool.not_false, decide_eq_true_eq, List.length_cons, List.length_nil, Nat.reduceAdd, Nat.reduceLeDiff, Nat.reduceLT, Nat.reduceMul, Nat.reduceSub, sizeLine_n, List.cons_append, List.nil_append, List.map_cons, List.map_nil, is_between_n, ← le_bl]
theorem zeros_of_n {x : Nat} (h : x < 2 ^ wd) : wcalls G (k + 1) i_zeros_of [.d (.int (x : Int))] S Q X = Q (.d (.int (zer x : Int))) S := by
  rw [w_fn0 (fd := F_zeros_of) C_m_pagework.x_zeros_of rfl rfl rfl rfl rfl]
  simp only [F_zeros_of, begin_, List.map_cons, List.map_nil, List.length_cons, List.length_nil, Nat.reduceAdd, Nat.reduceSub, List.replicate_succ, List.replicate_zero, List.cons_append, List.nil_append, isoIn]
  unfold B_zeros_of
  have hd := data_lt h
  have hl : (binS ((x / 1024 : Nat) : Int)).length ≤ 16777216 := Nat.le_trans (binS_len (k := dw) (by decide) hd) (by decide)
  try simp only [Nat.zero_le, pickx, pick, List.getElem?_cons_zero, List.getElem?_cons_succ, List.isEmpty_nil, List.isEmpty_cons, List.isEmpty_map, shaped_t0, shaped_l0, eq_self, List.length_map, ST, SO, SC, retP_d, retT_d, tokX_c, if_true, if_false, true_and, and_true, decide_true, decide_false, Bool.false_eq_true, Bool.not_true, Bool.not_false, decide_eq_true_eq, List.length_cons, List.length_nil, Nat.reduceAdd, Nat.reduceLeDiff, Nat.reduceLT, Nat.reduceMul, Nat.reduceSub, sizeLine_n, List.cons_append, List.nil_append, List.map_cons, List.map_nil, hl, sign_1, count_sign, bin_ones hd, c_zer]
theorem is_whole_page_n {x : Nat} (h : x < 2 ^ wd) : wcalls G (k + 2) i_is_whole_page [.d (.int (x : Int))] S Q X = Q (.d (.bool (isW x))) S := by
  rw [w_fn0 (fd := F_is_whole_page) C_m_pagework.x_is_whole_page rfl rfl rfl rfl rfl]
  simp only [F_is_whole_page, begin_, List.map_cons, List.map_nil, List.length_cons, List.length_nil, Nat.reduceAdd, Nat.reduceSub, List.replicate_succ, List.replicate_zero, List.cons_append, List.nil_append, isoIn]
  unfold B_is_whole_page
  try simp only [Nat.zero_le, pickx, pick, List.getElem?_cons_zero, List.getElem?_cons_succ, List.isEmpty_nil, List.isEmpty_cons, List.isEmpty_map, shaped_t0, shaped_l0, eq_self, List.length_map, ST, SO, SC, retP_d, retT_d, tokX_c, if_true, if_false, true_and, and_true, decide_true, decide_false, Bool.false_eq_true, Bool.not_true, Bool.not_false, decide_eq_true_eq, List.length_cons, List.length_nil, Nat.reduceAdd, Nat.reduceLeDiff, Nat.reduceLT, Nat.reduceMul, Nat.reduceSub, sizeLine_n, List.cons_append, List.nil_append, List.map_cons, List.map_nil, zeros_of_n h]
  rfl
theorem lies_within_n {x y : Nat} : wcalls G (k + 1) i_lies_within [.d (.int (x : Int)), .d (.int (y : Int))] S Q X = Q (.d (.bool (decide (x &&& y = x)))) S := by
  rw [w_fn0 (fd := F_lies_within) C_m_pagework.x_lies_within rfl rfl rfl rfl rfl]
  simp only [F_lies_within, begin_, List.map_cons, List.map_nil, List.length_cons, List.length_nil, Nat.reduceAdd, Nat.reduceSub, List.replicate_succ, List.replicate_zero, List.cons_append, List.nil_append, isoIn]
  unfold B_lies_within
  try simp only [Nat.zero_le, pickx, pick, List.getElem?_cons_zero, List.getElem?_cons_succ, List.isEmpty_nil, List.isEmpty_cons, List.isEmpty_map, shaped_t0, shaped_l0, eq_self, List.length_map, ST, SO, SC, retP_d, retT_d, tokX_c, if_true, if_false, true_and, and_true, decide_true, decide_false, Bool.false_eq_true, Bool.not_true, Bool.not_false, decide_eq_true_eq, List.length_cons, List.length_nil, Nat.reduceAdd, Nat.reduceLeDiff, Nat.reduceLT, Nat.reduceMul, Nat.reduceSub, sizeLine_n, List.cons_append, List.nil_append, List.map_cons, List.map_nil]
/-- what follows a page's data -/
theorem numbers_by_n {x : Nat} (h : x < 2 ^ wd) : wcalls G (k + 3) i_numbers_by [.d (.int (x : Int))] S Q X = Q (.d (encO (toldN x))) S := by
  rw [w_fn0 (fd := F_numbers_by) C_m_pagework.x_numbers_by rfl rfl rfl rfl rfl]
  simp only [F_numbers_by, begin_, List.map_cons, List.map_nil, List.length_cons, List.length_nil, Nat.reduceAdd, Nat.reduceSub, List.replicate_succ, List.replicate_zero, List.cons_append, List.nil_append, isoIn]
  unfold B_numbers_by
  try simp only [Nat.zero_le, pickx, pick, List.getElem?_cons_zero, List.getElem?_cons_succ, List.isEmpty_nil, List.isEmpty_cons, List.isEmpty_map, shaped_t0, shaped_l0, eq_self, List.length_map, ST, SO, SC, retP_d, retT_d, tokX_c, if_true, if_false, true_and, and_true, decide_true, decide_false, Bool.false_eq_true, Bool.not_true, Bool.not_false, decide_eq_true_eq, List.length_cons, List.length_nil, Nat.reduceAdd, Nat.reduceLeDiff, Nat.reduceLT, Nat.reduceMul, Nat.reduceSub, sizeLine_n, List.cons_append, List.nil_append, List.map_cons, List.map_nil, is_whole_page_n h]
  by_cases hw : isW x = true
  · try simp only [Nat.zero_le, pickx, pick, List.getElem?_cons_zero, List.getElem?_cons_succ, List.isEmpty_nil, List.isEmpty_cons, List.isEmpty_map, shaped_t0, shaped_l0, eq_self, List.length_map, ST, SO, SC, retP_d, retT_d, tokX_c, if_true, if_false, true_and, and_true, decide_true, decide_false, Bool.false_eq_true, Bool.not_true, Bool.not_false, decide_eq_true_eq, List.length_cons, List.length_nil, Nat.reduceAdd, Nat.reduceLeDiff, Nat.reduceLT, Nat.reduceMul, Nat.reduceSub, sizeLine_n, List.cons_append, List.nil_append, List.map_cons, List.map_nil, hw, rng_0, List.length_range, Nat.reduceLeDiff]
    rw [wComp_mapN dn dn (fun k => x / 1024 / 2 ^ (16 * (31 - k)) &&& 65535) (List.range 32) ?_]
    · rw [show (List.range 32).map (fun k => x / 1024 / 2 ^ (16 * (31 - k)) &&& 65535) = unitsOf (x / 1024) from rfl]
      unfold toldN
      rw [if_pos hw]
      have hl : (unitsOf (x / 1024)).length = 32 := by simp [unitsOf]
      generalize unitsOf (x / 1024) = us at hl
      obtain ⟨m, h0⟩ : ∃ m, us[0]? = some m := ⟨us[0], List.getElem?_eq_getElem (by omega)⟩
      unfold toldU
      have hb : us.length - (m + 1) ≤ 16777216 := by omega
      try simp only [Nat.zero_le, pickx, pick, List.getElem?_cons_zero, List.getElem?_cons_succ, List.isEmpty_nil, List.isEmpty_cons, List.isEmpty_map, shaped_t0, shaped_l0, eq_self, List.length_map, ST, SO, SC, retP_d, retT_d, tokX_c, if_true, if_false, true_and, and_true, decide_true, decide_false, Bool.false_eq_true, Bool.not_true, Bool.not_false, decide_eq_true_eq, List.length_cons, List.length_nil, Nat.reduceAdd, Nat.reduceLeDiff, Nat.reduceLT, Nat.reduceMul, Nat.reduceSub, sizeLine_n, List.cons_append, List.nil_append, List.map_cons, List.map_nil, List.getElem?_map, h0, ← List.map_drop, ← List.map_take, List.length_drop, hb]
      by_cases hm : 31 < m
      · try simp only [Nat.zero_le, pickx, pick, List.getElem?_cons_zero, List.getElem?_cons_succ, List.isEmpty_nil, List.isEmpty_cons, List.isEmpty_map, shaped_t0, shaped_l0, eq_self, List.length_map, ST, SO, SC, retP_d, retT_d, tokX_c, if_true, if_false, true_and, and_true, decide_true, decide_false, Bool.false_eq_true, Bool.not_true, Bool.not_false, decide_eq_true_eq, List.length_cons, List.length_nil, Nat.reduceAdd, Nat.reduceLeDiff, Nat.reduceLT, Nat.reduceMul, Nat.reduceSub, sizeLine_n, List.cons_append, List.nil_append, List.map_cons, List.map_nil, hm, Bool.true_or]
        rfl
      · try simp only [Nat.zero_le, pickx, pick, List.getElem?_cons_zero, List.getElem?_cons_succ, List.isEmpty_nil, List.isEmpty_cons, List.isEmpty_map, shaped_t0, shaped_l0, eq_self, List.length_map, ST, SO, SC, retP_d, retT_d, tokX_c, if_true, if_false, true_and, and_true, decide_true, decide_false, Bool.false_eq_true, Bool.not_true, Bool.not_false, decide_eq_true_eq, List.length_cons, List.length_nil, Nat.reduceAdd, Nat.reduceLeDiff, Nat.reduceLT, Nat.reduceMul, Nat.reduceSub, sizeLine_n, List.cons_append, List.nil_append, List.map_cons, List.map_nil, hm, Bool.false_or]
        rw [wComp_mapN dn PyData.bool (fun k => !decide (k = 0)) (us.drop (m + 1)) ?_]
        · try simp only [Nat.zero_le, pickx, pick, List.getElem?_cons_zero, List.getElem?_cons_succ, List.isEmpty_nil, List.isEmpty_cons, List.isEmpty_map, shaped_t0, shaped_l0, eq_self, List.length_map, ST, SO, SC, retP_d, retT_d, tokX_c, if_true, if_false, true_and, and_true, decide_true, decide_false, Bool.false_eq_true, Bool.not_true, Bool.not_false, decide_eq_true_eq, List.length_cons, List.length_nil, Nat.reduceAdd, Nat.reduceLeDiff, Nat.reduceLT, Nat.reduceMul, Nat.reduceSub, sizeLine_n, List.cons_append, List.nil_append, List.map_cons, List.map_nil, List.any_map, Function.id_comp]
          cases (us.drop (m + 1)).any fun n => !decide (n = 0) with
          | true => rfl
          | false =>
            try simp only [Nat.zero_le, pickx, pick, List.getElem?_cons_zero, List.getElem?_cons_succ, List.isEmpty_nil, List.isEmpty_cons, List.isEmpty_map, shaped_t0, shaped_l0, eq_self, List.length_map, ST, SO, SC, retP_d, retT_d, tokX_c, if_true, if_false, true_and, and_true, decide_true, decide_false, Bool.false_eq_true, Bool.not_true, Bool.not_false, decide_eq_true_eq, List.length_cons, List.length_nil, Nat.reduceAdd, Nat.reduceLeDiff, Nat.reduceLT, Nat.reduceMul, Nat.reduceSub, sizeLine_n, List.cons_append, List.nil_append, List.map_cons, List.map_nil, Nat.add_sub_cancel]
            rfl
        · intro a _ K
          unfold cTurn
          try simp only [Nat.zero_le, pickx, pick, List.getElem?_cons_zero, List.getElem?_cons_succ, List.isEmpty_nil, List.isEmpty_cons, List.isEmpty_map, shaped_t0, shaped_l0, eq_self, List.length_map, ST, SO, SC, retP_d, retT_d, tokX_c, if_true, if_false, true_and, and_true, decide_true, decide_false, Bool.false_eq_true, Bool.not_true, Bool.not_false, decide_eq_true_eq, List.length_cons, List.length_nil, Nat.reduceAdd, Nat.reduceLeDiff, Nat.reduceLT, Nat.reduceMul, Nat.reduceSub, sizeLine_n, List.cons_append, List.nil_append, List.map_cons, List.map_nil, wip]
    · intro a ha K
      have ha := List.mem_range.mp ha
      have hs : a ≤ 31 := by omega
      have m1 : mulOk ((16 : Nat) : Int) ((31 - a : Nat) : Int) = true := mulOk_n (m := 5) (n := 5) (by omega) (by omega) (by omega)
      unfold cTurn
      try simp only [Nat.zero_le, pickx, pick, List.getElem?_cons_zero, List.getElem?_cons_succ, List.isEmpty_nil, List.isEmpty_cons, List.isEmpty_map, shaped_t0, shaped_l0, eq_self, List.length_map, ST, SO, SC, retP_d, retT_d, tokX_c, if_true, if_false, true_and, and_true, decide_true, decide_false, Bool.false_eq_true, Bool.not_true, Bool.not_false, decide_eq_true_eq, List.length_cons, List.length_nil, Nat.reduceAdd, Nat.reduceLeDiff, Nat.reduceLT, Nat.reduceMul, Nat.reduceSub, sizeLine_n, List.cons_append, List.nil_append, List.map_cons, List.map_nil, wip, c_sub hs, m1]
  · have hw : isW x = false := by simpa using hw
    try simp only [Nat.zero_le, pickx, pick, List.getElem?_cons_zero, List.getElem?_cons_succ, List.isEmpty_nil, List.isEmpty_cons, List.isEmpty_map, shaped_t0, shaped_l0, eq_self, List.length_map, ST, SO, SC, retP_d, retT_d, tokX_c, if_true, if_false, true_and, and_true, decide_true, decide_false, Bool.false_eq_true, Bool.not_true, Bool.not_false, decide_eq_true_eq, List.length_cons, List.length_nil, Nat.reduceAdd, Nat.reduceLeDiff, Nat.reduceLT, Nat.reduceMul, Nat.reduceSub, sizeLine_n, List.cons_append, List.nil_append, List.map_cons, List.map_nil, hw]
    unfold toldN
    rw [hw]
    rfl
end
end Ft
namespace Ft
def unitsJ (j d : Nat) : List Nat := (List.range j).map fun k => d / 2 ^ (16 * (j - 1 - k)) % 65536
theorem unitsJ_succ (j d : Nat) : unitsJ (j + 1) d = unitsJ j (d / 65536) ++ [d % 65536] := by
  unfold unitsJ
  rw [List.range_succ, List.map_append]
  congr 1
  · refine List.map_congr_left fun k hk => ?_
    have hk := List.mem_range.mp hk
    rw [Nat.div_div_eq_div_mul, show 16 * (j + 1 - 1 - k) = 16 + 16 * (j - 1 - k) by omega, Nat.pow_add]
  · simp
theorem units_J (d : Nat) : unitsOf d = unitsJ 32 d := by
  unfold unitsOf unitsJ
  exact List.map_congr_left fun k _ => and_65535 _
theorem foldN_app (us : List Nat) (u a : Nat) : foldN (us ++ [u]) a = foldN us a * 2 ^ 16 + u := by
  unfold foldN
  rw [List.foldl_append]
  rfl
theorem fold_units : ∀ (j d : Nat), d < 2 ^ (16 * j) → foldN (unitsJ j d) 0 = d
  | 0, d, h => by
    have : d = 0 := by simpa using h
    subst this
    rfl
  | j + 1, d, h => by
    rw [unitsJ_succ, foldN_app, fold_units j (d / 65536) (by rw [show 16 * (j + 1) = 16 * j + 16 by omega, Nat.pow_add] at h; omega)]
    omega
theorem units_fold : ∀ (j : Nat) (us : List Nat), us.length = j → (∀ u ∈ us, u < 65536) → unitsJ j (foldN us 0) = us
  | 0, us, h, _ => by
    have : us = [] := List.length_eq_zero_iff.mp h
    subst this
    rfl
  | j + 1, us, h, hu => by
    obtain ⟨vs, u, rfl⟩ : ∃ vs u, us = vs ++ [u] := by
      rcases List.eq_nil_or_concat us with e | ⟨vs, u, e⟩
      · rw [e] at h; simp at h
      · exact ⟨vs, u, by rw [e, List.concat_eq_append]⟩
    have h1 : vs.length = j := by simpa using h
    have h2 := hu u (by simp)
    rw [unitsJ_succ, foldN_app]
    have e1 : (foldN vs 0 * 2 ^ 16 + u) / 65536 = foldN vs 0 := by omega
    have e2 : (foldN vs 0 * 2 ^ 16 + u) % 65536 = u := by omega
    rw [e1, e2, units_fold j vs h1 fun w hw => hu w (by simp [hw])]
theorem unitsJ_len (j d : Nat) : (unitsJ j d).length = j := by simp [unitsJ]
theorem unitsJ_lt (j d : Nat) : ∀ u ∈ unitsJ j d, u < 65536 := fun u hu => by
  obtain ⟨k, _, rfl⟩ := List.mem_map.mp hu
  exact Nat.mod_lt _ (by decide)
theorem foldN_zeros (us : List Nat) (a : Nat) : ∀ m, foldN (us ++ List.replicate m 0) a = foldN us a * 2 ^ (16 * m)
  | 0 => by simp
  | m + 1 => by
    rw [List.replicate_succ', ← List.append_assoc, foldN_app, foldN_zeros us a m, Nat.add_zero, Nat.mul_assoc, ← Nat.pow_add]
    rfl
theorem dataN_fold {ns : List Nat} : dataN ns = foldN (ns.length :: ns ++ List.replicate (31 - ns.length) 0) 0 := by
  rw [foldN_zeros]
  show foldN ns ns.length * _ = foldN ns (0 * 2 ^ 16 + ns.length) * _
  rw [Nat.zero_mul, Nat.zero_add]
theorem units_data {ns : List Nat} (hl : ns.length ≤ 31) (hn : ∀ n ∈ ns, n < 65536) : unitsOf (dataN ns) = ns.length :: ns ++ List.replicate (31 - ns.length) 0 := by
  rw [units_J, dataN_fold]
  refine units_fold 32 _ (by simp; omega) fun u hu => ?_
  simp only [List.cons_append, List.mem_cons, List.mem_append, List.mem_replicate] at hu
  rcases hu with rfl | hu | ⟨_, rfl⟩
  · omega
  · exact hn u hu
  · decide
theorem wordN_data (ns : List Nat) : wordN ns / 1024 = dataN ns := by
  unfold wordN
  have := zer_le (dataN ns * 1024)
  omega
theorem wordN_whole (ns : List Nat) : isW (wordN ns) = true := by
  unfold isW
  refine decide_eq_true ?_
  have e : zer (wordN ns) = zer (dataN ns * 1024) := by
    unfold zer
    rw [wordN_data, Nat.mul_div_cancel _ (by decide)]
  rw [e]
  unfold wordN
  have := zer_le (dataN ns * 1024)
  omega
theorem wordN_lt {ns : List Nat} (hl : ns.length ≤ 31) (hn : ∀ n ∈ ns, n < 65536) : wordN ns < 2 ^ wd :=
  page_lt (dataN_lt hl hn) (by have := zer_le (dataN ns * 1024); omega)
theorem told_word {ns : List Nat} (hl : ns.length ≤ 31) (hn : ∀ n ∈ ns, n < 65536) : toldN (wordN ns) = some ns := by
  unfold toldN
  rw [if_pos (wordN_whole ns), wordN_data, units_data hl hn]
  unfold toldU
  rw [List.cons_append, List.getElem?_cons_zero]
  dsimp only
  have h1 : ((ns.length :: (ns ++ List.replicate (31 - ns.length) 0)).drop (ns.length + 1)).any (fun n => !decide (n = 0)) = false := by
    rw [List.drop_succ_cons, List.drop_left]
    rw [List.any_eq_false]
    intro z hz
    have := (List.mem_replicate.mp hz).2
    simp [this]
  rw [h1]
  have h2 : ¬ 31 < ns.length := by omega
  simp [h2]
theorem word_told {x : Nat} {ns : List Nat} (hx : x < 2 ^ wd) (h : toldN x = some ns) : x = wordN ns ∧ ns.length ≤ 31 ∧ ∀ n ∈ ns, n < 65536 := by
  unfold toldN at h
  split at h
  · rename_i hw
    have hd := data_lt hx
    have hu := fold_units 32 (x / 1024) hd
    have hlen := unitsJ_len 32 (x / 1024)
    have hlt := unitsJ_lt 32 (x / 1024)
    rw [units_J] at h
    generalize unitsJ 32 (x / 1024) = us at h hu hlen hlt
    obtain ⟨m, r, rfl⟩ : ∃ m r, us = m :: r := by
      cases us with
      | nil => simp at hlen
      | cons m r => exact ⟨m, r, rfl⟩
    unfold toldU at h
    rw [List.getElem?_cons_zero] at h
    dsimp only at h
    split at h
    · cases h
    · rename_i hc
      have hns := Option.some.inj h
      simp only [Bool.or_eq_true, decide_eq_true_eq, not_or, List.any_eq_true, not_exists, not_and, List.drop_succ_cons, Bool.not_eq_true', decide_eq_false_iff_not, Classical.not_not] at hc
      rw [List.drop_succ_cons, List.drop_zero] at hns
      have hr : r.length = 31 := by simpa using hlen
      have hl : ns.length = m := by rw [← hns, List.length_take]; omega
      have hz : r.drop m = List.replicate (31 - m) 0 := by
        refine List.eq_replicate_iff.mpr ⟨by rw [List.length_drop]; omega, fun z hz => hc.2 z hz⟩
      have hr2 : r = ns ++ List.replicate (31 - ns.length) 0 := by
        rw [hl, ← hz, ← hns, List.take_append_drop]
      refine ⟨?_, by omega, fun n hn => hlt n ?_⟩
      · have e : x / 1024 = dataN ns := by
          rw [dataN_fold, ← hu, hr2, hl]
          rfl
        have hw := of_decide_eq_true hw
        unfold wordN
        have e2 : zer x = zer (dataN ns * 1024) := by
          unfold zer
          rw [e, Nat.mul_div_cancel _ (by decide)]
        rw [← e2, ← e, ← hw]
        omega
      · rw [hr2]
        simp [hn]
  · cases h
theorem toldN_nil {x : Nat} (hx : x < 2 ^ wd) : toldN x = some [] ↔ x = wordN [] := by
  constructor
  · exact fun h => (word_told hx h).1
  · intro h
    rw [h]
    exact told_word (by simp) (by simp)
end Ft
namespace Ft
open PySem PySem.Spec L2
theorem whl_lt {n : Nat} (h : n < 10000) : n < whlMost := Nat.lt_of_lt_of_le h (by decide)
section
variable {G : Tbl} [C_lp G] {k n : Nat} {S : Sto} {Q : Qv} {X : Xv}
theorem l_row_n (hn : S[n]? = some .tok) (h : ∀ ns : List Nat, ns.length ≤ 31 → (∀ x ∈ ns, x < 65536) → Q (.d (.tuple (ns.map dn))) S) : wcalls G (k + 3) i_l_row [.ref n] S Q X := by
  rw [w_fn1 (fd := F_l_row) (C_lp.x_l_row) rfl rfl rfl rfl hn]
  simp only [F_l_row, begin_, List.map_cons, List.map_nil, List.length_cons, List.length_nil, Nat.reduceAdd, Nat.reduceSub, List.replicate_succ, List.replicate_zero, List.cons_append, List.nil_append, isoIn]
  unfold B_l_row
  try simp only [Nat.zero_le, pickx, pick, List.getElem?_cons_zero, List.getElem?_cons_succ, List.isEmpty_nil, List.isEmpty_cons, List.isEmpty_map, shaped_t0, shaped_l0, eq_self, List.length_map, ST, SO, SC, retP_d, retT_d, tokX_c, if_true, if_false, true_and, and_true, decide_true, decide_false, Bool.false_eq_true, Bool.not_true, Bool.not_false, decide_eq_true_eq, List.length_cons, List.length_nil, Nat.reduceAdd, Nat.reduceLeDiff, Nat.reduceLT, Nat.reduceMul, Nat.reduceSub, sizeLine_n, List.cons_append, List.nil_append, List.map_cons, List.map_nil, l_draw_n, l_pick_n]
  intro d hd z hz
  obtain ⟨m, hm, rfl⟩ : ∃ m, m ≤ 31 ∧ z = dn m := by
    have hz : z ∈ ([0, 1, 2, 3, 5, 9, 12, 24, 30, 31, 31, d].map dn) := hz
    obtain ⟨m, hm, rfl⟩ := List.mem_map.mp hz
    refine ⟨m, ?_, rfl⟩
    simp only [List.mem_cons, List.not_mem_nil, or_false] at hm
    omega
  have h1 : m < 4611686018427387904 := by omega
  have h2 : m ≤ 16777216 := by omega
  try simp only [Nat.zero_le, pickx, pick, List.getElem?_cons_zero, List.getElem?_cons_succ, List.isEmpty_nil, List.isEmpty_cons, List.isEmpty_map, shaped_t0, shaped_l0, eq_self, List.length_map, ST, SO, SC, retP_d, retT_d, tokX_c, if_true, if_false, true_and, and_true, decide_true, decide_false, Bool.false_eq_true, Bool.not_true, Bool.not_false, decide_eq_true_eq, List.length_cons, List.length_nil, Nat.reduceAdd, Nat.reduceLeDiff, Nat.reduceLT, Nat.reduceMul, Nat.reduceSub, sizeLine_n, List.cons_append, List.nil_append, List.map_cons, List.map_nil, rng_0, List.length_range, h1, h2]
  refine w_for (fun r τ S1 => ∃ (ns : List Nat) (o : Option W), S1 = [.tok, .dl (ns.map dn)] ∧ τ = [some (.ref 0), some (.ref 1), o] ∧ ns.length + r.length ≤ 31 ∧ ∀ x ∈ ns, x < 65536) ?_ ?_ _ _ _ ⟨[], none, rfl, rfl, ?_, ?_⟩
  · rintro x r τ S1 K ⟨ns, o, rfl, rfl, hl, hx⟩ hk - - - -
    unfold fTurn
    rw [List.length_cons] at hl
    have h3 : ns.length < 16777216 := by omega
    try simp only [Nat.zero_le, pickx, pick, List.getElem?_cons_zero, List.getElem?_cons_succ, List.isEmpty_nil, List.isEmpty_cons, List.isEmpty_map, shaped_t0, shaped_l0, eq_self, List.length_map, ST, SO, SC, retP_d, retT_d, tokX_c, if_true, if_false, true_and, and_true, decide_true, decide_false, Bool.false_eq_true, Bool.not_true, Bool.not_false, decide_eq_true_eq, List.length_cons, List.length_nil, Nat.reduceAdd, Nat.reduceLeDiff, Nat.reduceLT, Nat.reduceMul, Nat.reduceSub, sizeLine_n, List.cons_append, List.nil_append, List.map_cons, List.map_nil, l_draw_n, l_pick_n, h3]
    intro a ha b hb z hz
    have hz : z ∈ ([0, 1, 65535, a, b].map dn) := hz
    obtain ⟨m, hm, rfl⟩ := List.mem_map.mp hz
    refine hk _ _ ⟨ns ++ [m], _, by rw [List.map_append]; rfl, rfl, by rw [List.length_append, List.length_singleton]; omega, fun y hy => ?_⟩
    simp only [List.mem_append, List.mem_cons, List.not_mem_nil, or_false] at hy hm
    rcases hy with hy | rfl
    · exact hx y hy
    · omega
  · rintro τ S1 ⟨ns, o, rfl, rfl, hl, hx⟩
    try simp only [Nat.zero_le, pickx, pick, List.getElem?_cons_zero, List.getElem?_cons_succ, List.isEmpty_nil, List.isEmpty_cons, List.isEmpty_map, shaped_t0, shaped_l0, eq_self, List.length_map, ST, SO, SC, retP_d, retT_d, tokX_c, if_true, if_false, true_and, and_true, decide_true, decide_false, Bool.false_eq_true, Bool.not_true, Bool.not_false, decide_eq_true_eq, List.length_cons, List.length_nil, Nat.reduceAdd, Nat.reduceLeDiff, Nat.reduceLT, Nat.reduceMul, Nat.reduceSub, sizeLine_n, List.cons_append, List.nil_append, List.map_cons, List.map_nil]
    exact h ns (by simpa using hl) hx
  · simpa using hm
  · simp
theorem ones_run {m : Nat} : ∀ (j x t : Nat), x < 2 ^ m → pc m x ≤ j → runW (fun a : Nat × Nat => if 0 < a.1 then some (a.1 &&& (a.1 - 1), a.2 + 1) else none) j (x, t) = (0, t + pc m x)
  | 0, x, t, hx, h => by
    have : x = 0 := by
      rcases Nat.eq_zero_or_pos x with e | e
      · exact e
      · have := pc_pred m x e hx
        omega
    subst this
    rw [pc_zero]
    rfl
  | j + 1, x, t, hx, h => by
    unfold runW
    rcases Nat.eq_zero_or_pos x with e | e
    · subst e
      rw [pc_zero]
      rfl
    · have h1 := pc_pred m x e hx
      dsimp only
      rw [if_pos e]
      dsimp only
      rw [ones_run j _ _ (Nat.and_lt_two_pow (n := m) _ (by omega)) (by omega)]
      congr 1
      omega
theorem l_ones_n {x m : Nat} (h : x < 2 ^ m) (hm : m < 10000) : wcalls G (k + 1) i_l_ones [.d (.int (x : Int))] S Q X = Q (.d (.int (pc m x : Int))) S := by
  rw [w_fn0 (fd := F_l_ones) C_lp.x_l_ones rfl rfl rfl rfl rfl]
  simp only [F_l_ones, begin_, List.map_cons, List.map_nil, List.length_cons, List.length_nil, Nat.reduceAdd, Nat.reduceSub, List.replicate_succ, List.replicate_zero, List.cons_append, List.nil_append, isoIn]
  unfold B_l_ones
  try simp only [Nat.zero_le, pickx, pick, List.getElem?_cons_zero, List.getElem?_cons_succ, List.isEmpty_nil, List.isEmpty_cons, List.isEmpty_map, shaped_t0, shaped_l0, eq_self, List.length_map, ST, SO, SC, retP_d, retT_d, tokX_c, if_true, if_false, true_and, and_true, decide_true, decide_false, Bool.false_eq_true, Bool.not_true, Bool.not_false, decide_eq_true_eq, List.length_cons, List.length_nil, Nat.reduceAdd, Nat.reduceLeDiff, Nat.reduceLT, Nat.reduceMul, Nat.reduceSub, sizeLine_n, List.cons_append, List.nil_append, List.map_cons, List.map_nil]
  rw [wWhl_eq (fun a : Nat × Nat => [some (.d (.int (a.1 : Int))), some (.d (.int (a.2 : Int)))]) (fun _ => []) (fun a : Nat × Nat => if 0 < a.1 then some (a.1 &&& (a.1 - 1), a.2 + 1) else none) (fun a => a.1 < 2 ^ m) (fun a => pc m a.1) ?_ ?_ whlMost (x, 0) m h (pc_le _ _) (Nat.lt_of_le_of_lt (pc_le _ _) (whl_lt hm))]
  · rw [ones_run m x 0 h (pc_le _ _)]
    try simp only [Nat.zero_le, pickx, pick, List.getElem?_cons_zero, List.getElem?_cons_succ, List.isEmpty_nil, List.isEmpty_cons, List.isEmpty_map, shaped_t0, shaped_l0, eq_self, List.length_map, ST, SO, SC, retP_d, retT_d, tokX_c, if_true, if_false, true_and, and_true, decide_true, decide_false, Bool.false_eq_true, Bool.not_true, Bool.not_false, decide_eq_true_eq, List.length_cons, List.length_nil, Nat.reduceAdd, Nat.reduceLeDiff, Nat.reduceLT, Nat.reduceMul, Nat.reduceSub, sizeLine_n, List.cons_append, List.nil_append, List.map_cons, List.map_nil, Nat.zero_add]
  · rintro ⟨a, b⟩ ⟨c, d⟩ hp hs
    dsimp only at hp hs ⊢
    split at hs
    · rename_i h0
      cases hs
      have := pc_pred m a h0 hp
      exact ⟨Nat.and_lt_two_pow (n := m) _ (by omega), by omega⟩
    · cases hs
  · rintro ⟨a, b⟩ X K R hp
    dsimp only
    by_cases h0 : 0 < a
    · have h1 : 1 ≤ a := h0
      try simp only [Nat.zero_le, pickx, pick, List.getElem?_cons_zero, List.getElem?_cons_succ, List.isEmpty_nil, List.isEmpty_cons, List.isEmpty_map, shaped_t0, shaped_l0, eq_self, List.length_map, ST, SO, SC, retP_d, retT_d, tokX_c, if_true, if_false, true_and, and_true, decide_true, decide_false, Bool.false_eq_true, Bool.not_true, Bool.not_false, decide_eq_true_eq, List.length_cons, List.length_nil, Nat.reduceAdd, Nat.reduceLeDiff, Nat.reduceLT, Nat.reduceMul, Nat.reduceSub, sizeLine_n, List.cons_append, List.nil_append, List.map_cons, List.map_nil, h0, c_sub h1]
    · try simp only [Nat.zero_le, pickx, pick, List.getElem?_cons_zero, List.getElem?_cons_succ, List.isEmpty_nil, List.isEmpty_cons, List.isEmpty_map, shaped_t0, shaped_l0, eq_self, List.length_map, ST, SO, SC, retP_d, retT_d, tokX_c, if_true, if_false, true_and, and_true, decide_true, decide_false, Bool.false_eq_true, Bool.not_true, Bool.not_false, decide_eq_true_eq, List.length_cons, List.length_nil, Nat.reduceAdd, Nat.reduceLeDiff, Nat.reduceLT, Nat.reduceMul, Nat.reduceSub, sizeLine_n, List.cons_append, List.nil_append, List.map_cons, List.map_nil, h0]
theorem pc_1024 (d : Nat) : zer (d * 1024) = 512 - pc dw d := by
  unfold zer
  rw [Nat.mul_div_cancel _ (by decide)]
theorem whole_sub {d : Nat} : ((d * 1024 + 512 : Nat) : Int) - (pc dw d : Int) = ((d * 1024 + zer (d * 1024) : Nat) : Int) := by
  have h : pc dw d ≤ 512 := pc_le dw d
  rw [pc_1024, c_sub (a := d * 1024 + 512) (b := pc dw d) (by omega)]
  exact congrArg (fun n : Nat => (n : Int)) (by omega)
theorem l_word_n {ns : List Nat} (hl : ns.length ≤ 31) (hn : ∀ n ∈ ns, n < 65536) : wcalls G (k + 2) i_l_word [.d (.tuple (ns.map dn))] S Q X = Q (.d (.int (wordN ns : Int))) S := by
  rw [w_fn0 (fd := F_l_word) C_lp.x_l_word rfl rfl rfl rfl rfl]
  simp only [F_l_word, begin_, List.map_cons, List.map_nil, List.length_cons, List.length_nil, Nat.reduceAdd, Nat.reduceSub, List.replicate_succ, List.replicate_zero, List.cons_append, List.nil_append, isoIn]
  unfold B_l_word
  have hs : ns.length ≤ 16777216 := by omega
  try simp only [Nat.zero_le, pickx, pick, List.getElem?_cons_zero, List.getElem?_cons_succ, List.isEmpty_nil, List.isEmpty_cons, List.isEmpty_map, shaped_t0, shaped_l0, eq_self, List.length_map, ST, SO, SC, retP_d, retT_d, tokX_c, if_true, if_false, true_and, and_true, decide_true, decide_false, Bool.false_eq_true, Bool.not_true, Bool.not_false, decide_eq_true_eq, List.length_cons, List.length_nil, Nat.reduceAdd, Nat.reduceLeDiff, Nat.reduceLT, Nat.reduceMul, Nat.reduceSub, sizeLine_n, List.cons_append, List.nil_append, List.map_cons, List.map_nil, hs]
  rw [wFor_eq dn (fun a : Nat × Option W => [some (.d (.tuple (ns.map dn))), some (.d (.int (a.1 : Int))), a.2]) (fun _ => []) (fun a n => (a.1 * 2 ^ 16 + n, some (.d (dn n)))) (fun r a => a.1 < 2 ^ (kB - 16 * r.length) ∧ r.length ≤ 31 ∧ ∀ n ∈ r, n < 65536) ?_ ns (ns.length, none) ?_]
  · rw [foldl_pair]
    have hd := dataN_lt hl hn
    have hz : foldN ns ns.length < 2 ^ kB := by
      have z := foldN_lt ns ns.length 16 (by omega) hn
      exact Nat.lt_of_lt_of_le z (Nat.pow_le_pow_right (by decide) (by unfold kB; omega))
    have m1 : mulOk ((16 : Nat) : Int) ((31 - ns.length : Nat) : Int) = true := mulOk_n (m := 5) (n := 5) (by omega) (by omega) (by omega)
    have m2 : shlOk (foldN ns ns.length : Int) ((16 * (31 - ns.length) : Nat) : Int) := shlOk_n hz (by unfold kB; omega)
    have m3 : mulOk ((dataN ns : Nat) : Int) ((1024 : Nat) : Int) = true := mulOk_n (m := dw) (n := 11) hd (by omega) (by decide)
    try simp only [Nat.zero_le, pickx, pick, List.getElem?_cons_zero, List.getElem?_cons_succ, List.isEmpty_nil, List.isEmpty_cons, List.isEmpty_map, shaped_t0, shaped_l0, eq_self, List.length_map, ST, SO, SC, retP_d, retT_d, tokX_c, if_true, if_false, true_and, and_true, decide_true, decide_false, Bool.false_eq_true, Bool.not_true, Bool.not_false, decide_eq_true_eq, List.length_cons, List.length_nil, Nat.reduceAdd, Nat.reduceLeDiff, Nat.reduceLT, Nat.reduceMul, Nat.reduceSub, sizeLine_n, List.cons_append, List.nil_append, List.map_cons, List.map_nil, c_sub hl, m1, m2]
    rw [show foldN ns ns.length * 2 ^ (16 * (31 - ns.length)) = dataN ns from rfl]
    try simp only [Nat.zero_le, pickx, pick, List.getElem?_cons_zero, List.getElem?_cons_succ, List.isEmpty_nil, List.isEmpty_cons, List.isEmpty_map, shaped_t0, shaped_l0, eq_self, List.length_map, ST, SO, SC, retP_d, retT_d, tokX_c, if_true, if_false, true_and, and_true, decide_true, decide_false, Bool.false_eq_true, Bool.not_true, Bool.not_false, decide_eq_true_eq, List.length_cons, List.length_nil, Nat.reduceAdd, Nat.reduceLeDiff, Nat.reduceLT, Nat.reduceMul, Nat.reduceSub, sizeLine_n, List.cons_append, List.nil_append, List.map_cons, List.map_nil, m3, l_ones_n hd (by decide), whole_sub]
    rfl
  · rintro n r a K ⟨hp, hr, hn'⟩
    unfold fTurn
    have m1 : mulOk (a.1 : Int) ((65536 : Nat) : Int) = true := mulOk_n (n := 17) hp (by omega) (by unfold kB; omega)
    try simp only [Nat.zero_le, pickx, pick, List.getElem?_cons_zero, List.getElem?_cons_succ, List.isEmpty_nil, List.isEmpty_cons, List.isEmpty_map, shaped_t0, shaped_l0, eq_self, List.length_map, ST, SO, SC, retP_d, retT_d, tokX_c, if_true, if_false, true_and, and_true, decide_true, decide_false, Bool.false_eq_true, Bool.not_true, Bool.not_false, decide_eq_true_eq, List.length_cons, List.length_nil, Nat.reduceAdd, Nat.reduceLeDiff, Nat.reduceLT, Nat.reduceMul, Nat.reduceSub, sizeLine_n, List.cons_append, List.nil_append, List.map_cons, List.map_nil, m1]
    rw [List.length_cons] at hr
    refine ⟨?_, by omega, fun m hm => hn' m (List.mem_cons_of_mem _ hm)⟩
    have h0 := hn' n (List.mem_cons_self ..)
    rw [List.length_cons] at hp
    rw [show kB - 16 * r.length = (kB - 16 * (r.length + 1)) + 16 by unfold kB; omega, Nat.pow_add]
    omega
  · refine ⟨?_, hl, hn⟩
    exact Nat.lt_of_lt_of_le (show ns.length < 2 ^ 16 by omega) (Nat.pow_le_pow_right (by decide) (by unfold kB; omega))
theorem l_word_0 : wcalls G (k + 2) i_l_word [.d (.tuple [])] S Q X = Q (.d (.int (wordN [] : Int))) S := l_word_n (ns := []) (by decide) (by simp)
theorem l_whole_n {d : Nat} (h : d < 2 ^ dw) : wcalls G (k + 2) i_l_whole [.d (.int (d : Int))] S Q X = Q (.d (.int ((d * 1024 + zer (d * 1024) : Nat) : Int))) S := by
  rw [w_fn0 (fd := F_l_whole) C_lp.x_l_whole rfl rfl rfl rfl rfl]
  simp only [F_l_whole, begin_, List.map_cons, List.map_nil, List.length_cons, List.length_nil, Nat.reduceAdd, Nat.reduceSub, List.replicate_succ, List.replicate_zero, List.cons_append, List.nil_append, isoIn]
  unfold B_l_whole
  have m3 : mulOk (d : Int) ((1024 : Nat) : Int) = true := mulOk_n (m := dw) (n := 11) h (by omega) (by decide)
  try simp only [Nat.zero_le, pickx, pick, List.getElem?_cons_zero, List.getElem?_cons_succ, List.isEmpty_nil, List.isEmpty_cons, List.isEmpty_map, shaped_t0, shaped_l0, eq_self, List.length_map, ST, SO, SC, retP_d, retT_d, tokX_c, if_true, if_false, true_and, and_true, decide_true, decide_false, Bool.false_eq_true, Bool.not_true, Bool.not_false, decide_eq_true_eq, List.length_cons, List.length_nil, Nat.reduceAdd, Nat.reduceLeDiff, Nat.reduceLT, Nat.reduceMul, Nat.reduceSub, sizeLine_n, List.cons_append, List.nil_append, List.map_cons, List.map_nil, m3, l_ones_n h (by decide), whole_sub]
/-- what the law's own reading tells -/
def encN (x : Nat) : D := if isW x = true then (match toldU (unitsOf (x / 1024)) with
    | none => .tuple []
    | some ns => .tuple (ns.map dn)) else .none
theorem l_numbers_n {x : Nat} (h : x < 2 ^ wd) : wcalls G (k + 2) i_l_numbers [.d (.int (x : Int))] S Q X = Q (.d (encN x)) S := by
  rw [w_fn0 (fd := F_l_numbers) C_lp.x_l_numbers rfl rfl rfl rfl rfl]
  simp only [F_l_numbers, begin_, List.map_cons, List.map_nil, List.length_cons, List.length_nil, Nat.reduceAdd, Nat.reduceSub, List.replicate_succ, List.replicate_zero, List.cons_append, List.nil_append, isoIn]
  unfold B_l_numbers
  have hd := data_lt h
  try simp only [Nat.zero_le, pickx, pick, List.getElem?_cons_zero, List.getElem?_cons_succ, List.isEmpty_nil, List.isEmpty_cons, List.isEmpty_map, shaped_t0, shaped_l0, eq_self, List.length_map, ST, SO, SC, retP_d, retT_d, tokX_c, if_true, if_false, true_and, and_true, decide_true, decide_false, Bool.false_eq_true, Bool.not_true, Bool.not_false, decide_eq_true_eq, List.length_cons, List.length_nil, Nat.reduceAdd, Nat.reduceLeDiff, Nat.reduceLT, Nat.reduceMul, Nat.reduceSub, sizeLine_n, List.cons_append, List.nil_append, List.map_cons, List.map_nil, Nat.reducePow, l_ones_n hd (by decide), c_zer]
  unfold encN
  by_cases hw : x % 1024 = zer x
  · have hw' : isW x = true := decide_eq_true hw
    try simp only [Nat.zero_le, pickx, pick, List.getElem?_cons_zero, List.getElem?_cons_succ, List.isEmpty_nil, List.isEmpty_cons, List.isEmpty_map, shaped_t0, shaped_l0, eq_self, List.length_map, ST, SO, SC, retP_d, retT_d, tokX_c, if_true, if_false, true_and, and_true, decide_true, decide_false, Bool.false_eq_true, Bool.not_true, Bool.not_false, decide_eq_true_eq, List.length_cons, List.length_nil, Nat.reduceAdd, Nat.reduceLeDiff, Nat.reduceLT, Nat.reduceMul, Nat.reduceSub, sizeLine_n, List.cons_append, List.nil_append, List.map_cons, List.map_nil, hw, hw', rng_0, List.length_range]
    rw [wComp_mapN dn dn (fun k => x / 1024 / 2 ^ (16 * (31 - k)) &&& 65535) (List.range 32) ?_]
    · rw [show (List.range 32).map (fun k => x / 1024 / 2 ^ (16 * (31 - k)) &&& 65535) = unitsOf (x / 1024) from rfl]
      have hl : (unitsOf (x / 1024)).length = 32 := by simp [unitsOf]
      generalize unitsOf (x / 1024) = us at hl
      obtain ⟨m, h0⟩ : ∃ m, us[0]? = some m := ⟨us[0], List.getElem?_eq_getElem (by omega)⟩
      unfold toldU
      have hb : us.length - (m + 1) ≤ 16777216 := by omega
      try simp only [Nat.zero_le, pickx, pick, List.getElem?_cons_zero, List.getElem?_cons_succ, List.isEmpty_nil, List.isEmpty_cons, List.isEmpty_map, shaped_t0, shaped_l0, eq_self, List.length_map, ST, SO, SC, retP_d, retT_d, tokX_c, if_true, if_false, true_and, and_true, decide_true, decide_false, Bool.false_eq_true, Bool.not_true, Bool.not_false, decide_eq_true_eq, List.length_cons, List.length_nil, Nat.reduceAdd, Nat.reduceLeDiff, Nat.reduceLT, Nat.reduceMul, Nat.reduceSub, sizeLine_n, List.cons_append, List.nil_append, List.map_cons, List.map_nil, List.getElem?_map, h0, ← List.map_drop, ← List.map_take, List.length_drop, hb]
      by_cases hm : 31 < m
      · try simp only [Nat.zero_le, pickx, pick, List.getElem?_cons_zero, List.getElem?_cons_succ, List.isEmpty_nil, List.isEmpty_cons, List.isEmpty_map, shaped_t0, shaped_l0, eq_self, List.length_map, ST, SO, SC, retP_d, retT_d, tokX_c, if_true, if_false, true_and, and_true, decide_true, decide_false, Bool.false_eq_true, Bool.not_true, Bool.not_false, decide_eq_true_eq, List.length_cons, List.length_nil, Nat.reduceAdd, Nat.reduceLeDiff, Nat.reduceLT, Nat.reduceMul, Nat.reduceSub, sizeLine_n, List.cons_append, List.nil_append, List.map_cons, List.map_nil, hm, Bool.true_or]
      · try simp only [Nat.zero_le, pickx, pick, List.getElem?_cons_zero, List.getElem?_cons_succ, List.isEmpty_nil, List.isEmpty_cons, List.isEmpty_map, shaped_t0, shaped_l0, eq_self, List.length_map, ST, SO, SC, retP_d, retT_d, tokX_c, if_true, if_false, true_and, and_true, decide_true, decide_false, Bool.false_eq_true, Bool.not_true, Bool.not_false, decide_eq_true_eq, List.length_cons, List.length_nil, Nat.reduceAdd, Nat.reduceLeDiff, Nat.reduceLT, Nat.reduceMul, Nat.reduceSub, sizeLine_n, List.cons_append, List.nil_append, List.map_cons, List.map_nil, hm, Bool.false_or]
        rw [wComp_filter dn (fun k => !decide (k = 0)) dn (us.drop (m + 1)) ?_]
        · try simp only [Nat.zero_le, pickx, pick, List.getElem?_cons_zero, List.getElem?_cons_succ, List.isEmpty_nil, List.isEmpty_cons, List.isEmpty_map, shaped_t0, shaped_l0, eq_self, List.length_map, ST, SO, SC, retP_d, retT_d, tokX_c, if_true, if_false, true_and, and_true, decide_true, decide_false, Bool.false_eq_true, Bool.not_true, Bool.not_false, decide_eq_true_eq, List.length_cons, List.length_nil, Nat.reduceAdd, Nat.reduceLeDiff, Nat.reduceLT, Nat.reduceMul, Nat.reduceSub, sizeLine_n, List.cons_append, List.nil_append, List.map_cons, List.map_nil, shaped_ns, List.isEmpty_map]
          cases q : ((us.drop (m + 1)).filter fun n => !decide (n = 0)).isEmpty with
          | true =>
            have ha : ((us.drop (m + 1)).any fun n => !decide (n = 0)) = false := by
              rw [List.any_eq_false]
              intro z hz hc
              have := List.isEmpty_iff.mp q
              have hm2 : z ∈ (us.drop (m + 1)).filter fun n => !decide (n = 0) := List.mem_filter.mpr ⟨hz, hc⟩
              rw [this] at hm2
              cases hm2
            try simp only [Nat.zero_le, pickx, pick, List.getElem?_cons_zero, List.getElem?_cons_succ, List.isEmpty_nil, List.isEmpty_cons, List.isEmpty_map, shaped_t0, shaped_l0, eq_self, List.length_map, ST, SO, SC, retP_d, retT_d, tokX_c, if_true, if_false, true_and, and_true, decide_true, decide_false, Bool.false_eq_true, Bool.not_true, Bool.not_false, decide_eq_true_eq, List.length_cons, List.length_nil, Nat.reduceAdd, Nat.reduceLeDiff, Nat.reduceLT, Nat.reduceMul, Nat.reduceSub, sizeLine_n, List.cons_append, List.nil_append, List.map_cons, List.map_nil, ha, Nat.add_sub_cancel]
          | false =>
            have ha : ((us.drop (m + 1)).any fun n => !decide (n = 0)) = true := by
              cases e : (us.drop (m + 1)).filter fun n => !decide (n = 0) with
              | nil => rw [e] at q; cases q
              | cons z r =>
                have hz : z ∈ (us.drop (m + 1)).filter fun n => !decide (n = 0) := by rw [e]; exact List.mem_cons_self ..
                obtain ⟨h1, h2⟩ := List.mem_filter.mp hz
                exact List.any_eq_true.mpr ⟨z, h1, h2⟩
            try simp only [Nat.zero_le, pickx, pick, List.getElem?_cons_zero, List.getElem?_cons_succ, List.isEmpty_nil, List.isEmpty_cons, List.isEmpty_map, shaped_t0, shaped_l0, eq_self, List.length_map, ST, SO, SC, retP_d, retT_d, tokX_c, if_true, if_false, true_and, and_true, decide_true, decide_false, Bool.false_eq_true, Bool.not_true, Bool.not_false, decide_eq_true_eq, List.length_cons, List.length_nil, Nat.reduceAdd, Nat.reduceLeDiff, Nat.reduceLT, Nat.reduceMul, Nat.reduceSub, sizeLine_n, List.cons_append, List.nil_append, List.map_cons, List.map_nil, ha]
        · intro a _ K
          unfold cTurn
          try simp only [Nat.zero_le, pickx, pick, List.getElem?_cons_zero, List.getElem?_cons_succ, List.isEmpty_nil, List.isEmpty_cons, List.isEmpty_map, shaped_t0, shaped_l0, eq_self, List.length_map, ST, SO, SC, retP_d, retT_d, tokX_c, if_true, if_false, true_and, and_true, decide_true, decide_false, Bool.false_eq_true, Bool.not_true, Bool.not_false, decide_eq_true_eq, List.length_cons, List.length_nil, Nat.reduceAdd, Nat.reduceLeDiff, Nat.reduceLT, Nat.reduceMul, Nat.reduceSub, sizeLine_n, List.cons_append, List.nil_append, List.map_cons, List.map_nil, wip]
          cases decide (a = 0) <;> rfl
    · intro a ha K
      have ha := List.mem_range.mp ha
      have hs : a ≤ 31 := by omega
      have m1 : mulOk ((16 : Nat) : Int) ((31 - a : Nat) : Int) = true := mulOk_n (m := 5) (n := 5) (by omega) (by omega) (by omega)
      unfold cTurn
      try simp only [Nat.zero_le, pickx, pick, List.getElem?_cons_zero, List.getElem?_cons_succ, List.isEmpty_nil, List.isEmpty_cons, List.isEmpty_map, shaped_t0, shaped_l0, eq_self, List.length_map, ST, SO, SC, retP_d, retT_d, tokX_c, if_true, if_false, true_and, and_true, decide_true, decide_false, Bool.false_eq_true, Bool.not_true, Bool.not_false, decide_eq_true_eq, List.length_cons, List.length_nil, Nat.reduceAdd, Nat.reduceLeDiff, Nat.reduceLT, Nat.reduceMul, Nat.reduceSub, sizeLine_n, List.cons_append, List.nil_append, List.map_cons, List.map_nil, wip, c_sub hs, m1, and_65535, Nat.reduceLT]
  · have hw' : isW x = false := decide_eq_false hw
    try simp only [Nat.zero_le, pickx, pick, List.getElem?_cons_zero, List.getElem?_cons_succ, List.isEmpty_nil, List.isEmpty_cons, List.isEmpty_map, shaped_t0, shaped_l0, eq_self, List.length_map, ST, SO, SC, retP_d, retT_d, tokX_c, if_true, if_false, true_and, and_true, decide_true, decide_false, Bool.false_eq_true, Bool.not_true, Bool.not_false, decide_eq_true_eq, List.length_cons, List.length_nil, Nat.reduceAdd, Nat.reduceLeDiff, Nat.reduceLT, Nat.reduceMul, Nat.reduceSub, sizeLine_n, List.cons_append, List.nil_append, List.map_cons, List.map_nil, hw, hw']
/-- only one page tells (): the one whose data are 0 -/
theorem l_told_by_n {x : Nat} (h : x < 2 ^ wd) : wcalls G (k + 3) i_l_told_by [.d (.int (x : Int))] S Q X = Q (.d (encO (toldN x))) S := by
  rw [w_fn0 (fd := F_l_told_by) C_lp.x_l_told_by rfl rfl rfl rfl rfl]
  simp only [F_l_told_by, begin_, List.map_cons, List.map_nil, List.length_cons, List.length_nil, Nat.reduceAdd, Nat.reduceSub, List.replicate_succ, List.replicate_zero, List.cons_append, List.nil_append, isoIn]
  unfold B_l_told_by
  try simp only [Nat.zero_le, pickx, pick, List.getElem?_cons_zero, List.getElem?_cons_succ, List.isEmpty_nil, List.isEmpty_cons, List.isEmpty_map, shaped_t0, shaped_l0, eq_self, List.length_map, ST, SO, SC, retP_d, retT_d, tokX_c, if_true, if_false, true_and, and_true, decide_true, decide_false, Bool.false_eq_true, Bool.not_true, Bool.not_false, decide_eq_true_eq, List.length_cons, List.length_nil, Nat.reduceAdd, Nat.reduceLeDiff, Nat.reduceLT, Nat.reduceMul, Nat.reduceSub, sizeLine_n, List.cons_append, List.nil_append, List.map_cons, List.map_nil, l_numbers_n h]
  unfold encN toldN
  cases hw : isW x with
  | false => try simp only [Nat.zero_le, pickx, pick, List.getElem?_cons_zero, List.getElem?_cons_succ, List.isEmpty_nil, List.isEmpty_cons, List.isEmpty_map, shaped_t0, shaped_l0, eq_self, List.length_map, ST, SO, SC, retP_d, retT_d, tokX_c, if_true, if_false, true_and, and_true, decide_true, decide_false, Bool.false_eq_true, Bool.not_true, Bool.not_false, decide_eq_true_eq, List.length_cons, List.length_nil, Nat.reduceAdd, Nat.reduceLeDiff, Nat.reduceLT, Nat.reduceMul, Nat.reduceSub, sizeLine_n, List.cons_append, List.nil_append, List.map_cons, List.map_nil]; rfl
  | true =>
    try simp only [Nat.zero_le, pickx, pick, List.getElem?_cons_zero, List.getElem?_cons_succ, List.isEmpty_nil, List.isEmpty_cons, List.isEmpty_map, shaped_t0, shaped_l0, eq_self, List.length_map, ST, SO, SC, retP_d, retT_d, tokX_c, if_true, if_false, true_and, and_true, decide_true, decide_false, Bool.false_eq_true, Bool.not_true, Bool.not_false, decide_eq_true_eq, List.length_cons, List.length_nil, Nat.reduceAdd, Nat.reduceLeDiff, Nat.reduceLT, Nat.reduceMul, Nat.reduceSub, sizeLine_n, List.cons_append, List.nil_append, List.map_cons, List.map_nil]
    have hz : toldN x = toldU (unitsOf (x / 1024)) := by unfold toldN; rw [if_pos hw]
    have hn := toldN_nil h
    rw [hz] at hn
    cases q : toldU (unitsOf (x / 1024)) with
    | none =>
      rw [q] at hn
      have h0 : wordN [] ≠ x := fun e => by
        have := hn.mpr e.symm
        cases this
      try simp only [Nat.zero_le, pickx, pick, List.getElem?_cons_zero, List.getElem?_cons_succ, List.isEmpty_nil, List.isEmpty_cons, List.isEmpty_map, shaped_t0, shaped_l0, eq_self, List.length_map, ST, SO, SC, retP_d, retT_d, tokX_c, if_true, if_false, true_and, and_true, decide_true, decide_false, Bool.false_eq_true, Bool.not_true, Bool.not_false, decide_eq_true_eq, List.length_cons, List.length_nil, Nat.reduceAdd, Nat.reduceLeDiff, Nat.reduceLT, Nat.reduceMul, Nat.reduceSub, sizeLine_n, List.cons_append, List.nil_append, List.map_cons, List.map_nil, l_word_0, h0]
      rfl
    | some ns =>
      rw [q] at hn
      try simp only [Nat.zero_le, pickx, pick, List.getElem?_cons_zero, List.getElem?_cons_succ, List.isEmpty_nil, List.isEmpty_cons, List.isEmpty_map, shaped_t0, shaped_l0, eq_self, List.length_map, ST, SO, SC, retP_d, retT_d, tokX_c, if_true, if_false, true_and, and_true, decide_true, decide_false, Bool.false_eq_true, Bool.not_true, Bool.not_false, decide_eq_true_eq, List.length_cons, List.length_nil, Nat.reduceAdd, Nat.reduceLeDiff, Nat.reduceLT, Nat.reduceMul, Nat.reduceSub, sizeLine_n, List.cons_append, List.nil_append, List.map_cons, List.map_nil, shaped_nt, l_word_0]
      cases ns with
      | nil =>
        have e := hn.mp rfl
        try simp only [Nat.zero_le, pickx, pick, List.getElem?_cons_zero, List.getElem?_cons_succ, List.isEmpty_nil, List.isEmpty_cons, List.isEmpty_map, shaped_t0, shaped_l0, eq_self, List.length_map, ST, SO, SC, retP_d, retT_d, tokX_c, if_true, if_false, true_and, and_true, decide_true, decide_false, Bool.false_eq_true, Bool.not_true, Bool.not_false, decide_eq_true_eq, List.length_cons, List.length_nil, Nat.reduceAdd, Nat.reduceLeDiff, Nat.reduceLT, Nat.reduceMul, Nat.reduceSub, sizeLine_n, List.cons_append, List.nil_append, List.map_cons, List.map_nil, e]
        rfl
      | cons n r =>
        try simp only [Nat.zero_le, pickx, pick, List.getElem?_cons_zero, List.getElem?_cons_succ, List.isEmpty_nil, List.isEmpty_cons, List.isEmpty_map, shaped_t0, shaped_l0, eq_self, List.length_map, ST, SO, SC, retP_d, retT_d, tokX_c, if_true, if_false, true_and, and_true, decide_true, decide_false, Bool.false_eq_true, Bool.not_true, Bool.not_false, decide_eq_true_eq, List.length_cons, List.length_nil, Nat.reduceAdd, Nat.reduceLeDiff, Nat.reduceLT, Nat.reduceMul, Nat.reduceSub, sizeLine_n, List.cons_append, List.nil_append, List.map_cons, List.map_nil]
        rfl
theorem shl1_ok {n : Nat} (h : n < 100000) : shlOk ((1 : Nat) : Int) (n : Int) := shlOk_n (m := 1) (by decide) (by omega)
theorem full_dw : ((1 * 2 ^ 512 : Nat) : Int) - ((1 : Nat) : Int) = ((2 ^ dw - 1 : Nat) : Int) := by
  have h : 1 ≤ 2 ^ dw := Nat.two_pow_pos dw
  rw [show 1 * 2 ^ 512 = 2 ^ dw from Nat.one_mul _]
  exact c_sub h
theorem full_wd : ((1 * 2 ^ 522 : Nat) : Int) - ((1 : Nat) : Int) = ((2 ^ wd - 1 : Nat) : Int) := by
  have h : 1 ≤ 2 ^ wd := Nat.two_pow_pos wd
  rw [show 1 * 2 ^ 522 = 2 ^ wd from Nat.one_mul _]
  exact c_sub h
theorem pow_lt {a b : Nat} (h : a < b) : 1 * 2 ^ a < 2 ^ b := by
  rw [Nat.one_mul]
  exact Nat.pow_lt_pow_right (by decide) h
theorem l_data_n (hn : S[n]? = some .tok) (h : ∀ d : Nat, d < 2 ^ dw → Q (.d (.int (d : Int))) S) : wcalls G (k + 2) i_l_data [.ref n] S Q X := by
  rw [w_fn1 (fd := F_l_data) (C_lp.x_l_data) rfl rfl rfl rfl hn]
  simp only [F_l_data, begin_, List.map_cons, List.map_nil, List.length_cons, List.length_nil, Nat.reduceAdd, Nat.reduceSub, List.replicate_succ, List.replicate_zero, List.cons_append, List.nil_append, isoIn]
  unfold B_l_data
  try simp only [Nat.zero_le, pickx, pick, List.getElem?_cons_zero, List.getElem?_cons_succ, List.isEmpty_nil, List.isEmpty_cons, List.isEmpty_map, shaped_t0, shaped_l0, eq_self, List.length_map, ST, SO, SC, retP_d, retT_d, tokX_c, if_true, if_false, true_and, and_true, decide_true, decide_false, Bool.false_eq_true, Bool.not_true, Bool.not_false, decide_eq_true_eq, List.length_cons, List.length_nil, Nat.reduceAdd, Nat.reduceLeDiff, Nat.reduceLT, Nat.reduceMul, Nat.reduceSub, sizeLine_n, List.cons_append, List.nil_append, List.map_cons, List.map_nil, l_draw_n]
  intro way hway
  by_cases h0 : way = 0
  · try simp only [Nat.zero_le, pickx, pick, List.getElem?_cons_zero, List.getElem?_cons_succ, List.isEmpty_nil, List.isEmpty_cons, List.isEmpty_map, shaped_t0, shaped_l0, eq_self, List.length_map, ST, SO, SC, retP_d, retT_d, tokX_c, if_true, if_false, true_and, and_true, decide_true, decide_false, Bool.false_eq_true, Bool.not_true, Bool.not_false, decide_eq_true_eq, List.length_cons, List.length_nil, Nat.reduceAdd, Nat.reduceLeDiff, Nat.reduceLT, Nat.reduceMul, Nat.reduceSub, sizeLine_n, List.cons_append, List.nil_append, List.map_cons, List.map_nil, h0, rng_0, List.length_range]
    refine w_for (fun r τ S1 => ∃ (d : Nat) (o : Option W), S1 = [.tok] ∧ τ = [some (.ref 0), o, some (.d (dn way)), some (.d (dn d))] ∧ r.length ≤ 16 ∧ d < 2 ^ (dw - 32 * r.length)) ?_ ?_ _ _ _ ⟨0, none, rfl, by rw [h0], by simp, Nat.two_pow_pos _⟩
    · rintro x r τ S1 K ⟨d, o, rfl, rfl, hl, hd⟩ hk - - - -
      unfold fTurn
      rw [List.length_cons] at hl hd
      have m1 : mulOk (d : Int) ((4294967296 : Nat) : Int) = true := mulOk_n (n := 33) hd (by omega) (by unfold dw; omega)
      try simp only [Nat.zero_le, pickx, pick, List.getElem?_cons_zero, List.getElem?_cons_succ, List.isEmpty_nil, List.isEmpty_cons, List.isEmpty_map, shaped_t0, shaped_l0, eq_self, List.length_map, ST, SO, SC, retP_d, retT_d, tokX_c, if_true, if_false, true_and, and_true, decide_true, decide_false, Bool.false_eq_true, Bool.not_true, Bool.not_false, decide_eq_true_eq, List.length_cons, List.length_nil, Nat.reduceAdd, Nat.reduceLeDiff, Nat.reduceLT, Nat.reduceMul, Nat.reduceSub, sizeLine_n, List.cons_append, List.nil_append, List.map_cons, List.map_nil, l_draw_n, m1]
      intro e he
      refine hk _ _ ⟨_, _, rfl, rfl, by omega, ?_⟩
      rw [show dw - 32 * r.length = (dw - 32 * (r.length + 1)) + 32 by unfold dw; omega, Nat.pow_add]
      omega
    · rintro τ S1 ⟨d, o, rfl, rfl, hl, hd⟩
      try simp only [Nat.zero_le, pickx, pick, List.getElem?_cons_zero, List.getElem?_cons_succ, List.isEmpty_nil, List.isEmpty_cons, List.isEmpty_map, shaped_t0, shaped_l0, eq_self, List.length_map, ST, SO, SC, retP_d, retT_d, tokX_c, if_true, if_false, true_and, and_true, decide_true, decide_false, Bool.false_eq_true, Bool.not_true, Bool.not_false, decide_eq_true_eq, List.length_cons, List.length_nil, Nat.reduceAdd, Nat.reduceLeDiff, Nat.reduceLT, Nat.reduceMul, Nat.reduceSub, sizeLine_n, List.cons_append, List.nil_append, List.map_cons, List.map_nil]
      exact h d (by simpa using hd)
  · try simp only [Nat.zero_le, pickx, pick, List.getElem?_cons_zero, List.getElem?_cons_succ, List.isEmpty_nil, List.isEmpty_cons, List.isEmpty_map, shaped_t0, shaped_l0, eq_self, List.length_map, ST, SO, SC, retP_d, retT_d, tokX_c, if_true, if_false, true_and, and_true, decide_true, decide_false, Bool.false_eq_true, Bool.not_true, Bool.not_false, decide_eq_true_eq, List.length_cons, List.length_nil, Nat.reduceAdd, Nat.reduceLeDiff, Nat.reduceLT, Nat.reduceMul, Nat.reduceSub, sizeLine_n, List.cons_append, List.nil_append, List.map_cons, List.map_nil, h0, l_draw_n]
    intro m hm
    have h1 : m < 4611686018427387904 := by omega
    have h2 : m ≤ 16777216 := by omega
    try simp only [Nat.zero_le, pickx, pick, List.getElem?_cons_zero, List.getElem?_cons_succ, List.isEmpty_nil, List.isEmpty_cons, List.isEmpty_map, shaped_t0, shaped_l0, eq_self, List.length_map, ST, SO, SC, retP_d, retT_d, tokX_c, if_true, if_false, true_and, and_true, decide_true, decide_false, Bool.false_eq_true, Bool.not_true, Bool.not_false, decide_eq_true_eq, List.length_cons, List.length_nil, Nat.reduceAdd, Nat.reduceLeDiff, Nat.reduceLT, Nat.reduceMul, Nat.reduceSub, sizeLine_n, List.cons_append, List.nil_append, List.map_cons, List.map_nil, rng_0, List.length_range, h1, h2]
    refine w_for (fun r τ S1 => ∃ (d : Nat) (o : Option W), S1 = [.tok] ∧ τ = [some (.ref 0), o, some (.d (dn way)), some (.d (dn d))] ∧ d < 2 ^ dw) ?_ ?_ _ _ _ ⟨0, none, rfl, rfl, Nat.two_pow_pos _⟩
    · rintro x r τ S1 K ⟨d, o, rfl, rfl, hd⟩ hk - - - -
      unfold fTurn
      try simp only [Nat.zero_le, pickx, pick, List.getElem?_cons_zero, List.getElem?_cons_succ, List.isEmpty_nil, List.isEmpty_cons, List.isEmpty_map, shaped_t0, shaped_l0, eq_self, List.length_map, ST, SO, SC, retP_d, retT_d, tokX_c, if_true, if_false, true_and, and_true, decide_true, decide_false, Bool.false_eq_true, Bool.not_true, Bool.not_false, decide_eq_true_eq, List.length_cons, List.length_nil, Nat.reduceAdd, Nat.reduceLeDiff, Nat.reduceLT, Nat.reduceMul, Nat.reduceSub, sizeLine_n, List.cons_append, List.nil_append, List.map_cons, List.map_nil, l_draw_n]
      intro e he
      try simp only [Nat.zero_le, pickx, pick, List.getElem?_cons_zero, List.getElem?_cons_succ, List.isEmpty_nil, List.isEmpty_cons, List.isEmpty_map, shaped_t0, shaped_l0, eq_self, List.length_map, ST, SO, SC, retP_d, retT_d, tokX_c, if_true, if_false, true_and, and_true, decide_true, decide_false, Bool.false_eq_true, Bool.not_true, Bool.not_false, decide_eq_true_eq, List.length_cons, List.length_nil, Nat.reduceAdd, Nat.reduceLeDiff, Nat.reduceLT, Nat.reduceMul, Nat.reduceSub, sizeLine_n, List.cons_append, List.nil_append, List.map_cons, List.map_nil, shl1_ok (show e < 100000 by omega)]
      exact hk _ _ ⟨_, _, rfl, rfl, Nat.or_lt_two_pow hd (pow_lt he)⟩
    · rintro τ S1 ⟨d, o, rfl, rfl, hd⟩
      have e1 : d ≤ 2 ^ dw - 1 := by omega
      by_cases h3 : way = 1
      · try simp only [Nat.zero_le, pickx, pick, List.getElem?_cons_zero, List.getElem?_cons_succ, List.isEmpty_nil, List.isEmpty_cons, List.isEmpty_map, shaped_t0, shaped_l0, eq_self, List.length_map, ST, SO, SC, retP_d, retT_d, tokX_c, if_true, if_false, true_and, and_true, decide_true, decide_false, Bool.false_eq_true, Bool.not_true, Bool.not_false, decide_eq_true_eq, List.length_cons, List.length_nil, Nat.reduceAdd, Nat.reduceLeDiff, Nat.reduceLT, Nat.reduceMul, Nat.reduceSub, sizeLine_n, List.cons_append, List.nil_append, List.map_cons, List.map_nil, h3, shl1_ok (show 512 < 100000 by decide), full_dw, c_sub e1]
        exact h _ (by omega)
      · try simp only [Nat.zero_le, pickx, pick, List.getElem?_cons_zero, List.getElem?_cons_succ, List.isEmpty_nil, List.isEmpty_cons, List.isEmpty_map, shaped_t0, shaped_l0, eq_self, List.length_map, ST, SO, SC, retP_d, retT_d, tokX_c, if_true, if_false, true_and, and_true, decide_true, decide_false, Bool.false_eq_true, Bool.not_true, Bool.not_false, decide_eq_true_eq, List.length_cons, List.length_nil, Nat.reduceAdd, Nat.reduceLeDiff, Nat.reduceLT, Nat.reduceMul, Nat.reduceSub, sizeLine_n, List.cons_append, List.nil_append, List.map_cons, List.map_nil, h3]
        exact h _ hd
theorem l_bits_n (hn : S[n]? = some .tok) (h : ∀ x : Nat, x < 2 ^ wd → Q (.d (.int (x : Int))) S) : wcalls G (k + 2) i_l_bits [.ref n] S Q X := by
  rw [w_fn1 (fd := F_l_bits) (C_lp.x_l_bits) rfl rfl rfl rfl hn]
  simp only [F_l_bits, begin_, List.map_cons, List.map_nil, List.length_cons, List.length_nil, Nat.reduceAdd, Nat.reduceSub, List.replicate_succ, List.replicate_zero, List.cons_append, List.nil_append, isoIn]
  unfold B_l_bits
  try simp only [Nat.zero_le, pickx, pick, List.getElem?_cons_zero, List.getElem?_cons_succ, List.isEmpty_nil, List.isEmpty_cons, List.isEmpty_map, shaped_t0, shaped_l0, eq_self, List.length_map, ST, SO, SC, retP_d, retT_d, tokX_c, if_true, if_false, true_and, and_true, decide_true, decide_false, Bool.false_eq_true, Bool.not_true, Bool.not_false, decide_eq_true_eq, List.length_cons, List.length_nil, Nat.reduceAdd, Nat.reduceLeDiff, Nat.reduceLT, Nat.reduceMul, Nat.reduceSub, sizeLine_n, List.cons_append, List.nil_append, List.map_cons, List.map_nil, l_draw_n]
  intro way hway
  by_cases h0 : way = 0
  · try simp only [Nat.zero_le, pickx, pick, List.getElem?_cons_zero, List.getElem?_cons_succ, List.isEmpty_nil, List.isEmpty_cons, List.isEmpty_map, shaped_t0, shaped_l0, eq_self, List.length_map, ST, SO, SC, retP_d, retT_d, tokX_c, if_true, if_false, true_and, and_true, decide_true, decide_false, Bool.false_eq_true, Bool.not_true, Bool.not_false, decide_eq_true_eq, List.length_cons, List.length_nil, Nat.reduceAdd, Nat.reduceLeDiff, Nat.reduceLT, Nat.reduceMul, Nat.reduceSub, sizeLine_n, List.cons_append, List.nil_append, List.map_cons, List.map_nil, h0, shl1_ok (show 522 < 100000 by decide), full_wd]
    exact h _ (by have := Nat.two_pow_pos wd; omega)
  · try simp only [Nat.zero_le, pickx, pick, List.getElem?_cons_zero, List.getElem?_cons_succ, List.isEmpty_nil, List.isEmpty_cons, List.isEmpty_map, shaped_t0, shaped_l0, eq_self, List.length_map, ST, SO, SC, retP_d, retT_d, tokX_c, if_true, if_false, true_and, and_true, decide_true, decide_false, Bool.false_eq_true, Bool.not_true, Bool.not_false, decide_eq_true_eq, List.length_cons, List.length_nil, Nat.reduceAdd, Nat.reduceLeDiff, Nat.reduceLT, Nat.reduceMul, Nat.reduceSub, sizeLine_n, List.cons_append, List.nil_append, List.map_cons, List.map_nil, h0]
    obtain ⟨c, hc, hat⟩ : ∃ c : Nat, c ≤ 9 ∧ ([dn 1, dn 1, dn 3, dn 9] : List D)[way]? = some (dn c) := by
      have : way = 1 ∨ way = 2 ∨ way = 3 := by omega
      rcases this with rfl | rfl | rfl
      · exact ⟨1, by decide, rfl⟩
      · exact ⟨3, by decide, rfl⟩
      · exact ⟨9, by decide, rfl⟩
    have h1 : c < 4611686018427387904 := by omega
    have h2 : c ≤ 16777216 := by omega
    try simp only [Nat.zero_le, pickx, pick, List.getElem?_cons_zero, List.getElem?_cons_succ, List.isEmpty_nil, List.isEmpty_cons, List.isEmpty_map, shaped_t0, shaped_l0, eq_self, List.length_map, ST, SO, SC, retP_d, retT_d, tokX_c, if_true, if_false, true_and, and_true, decide_true, decide_false, Bool.false_eq_true, Bool.not_true, Bool.not_false, decide_eq_true_eq, List.length_cons, List.length_nil, Nat.reduceAdd, Nat.reduceLeDiff, Nat.reduceLT, Nat.reduceMul, Nat.reduceSub, sizeLine_n, List.cons_append, List.nil_append, List.map_cons, List.map_nil, hat, rng_0, List.length_range, h1, h2]
    refine w_for (fun r τ S1 => ∃ (d : Nat) (o : Option W), S1 = [.tok] ∧ τ = [some (.ref 0), some (.d (dn way)), some (.d (dn d)), o] ∧ d < 2 ^ wd) ?_ ?_ _ _ _ ⟨0, none, rfl, rfl, Nat.two_pow_pos _⟩
    · rintro x r τ S1 K ⟨d, o, rfl, rfl, hd⟩ hk - - - -
      unfold fTurn
      try simp only [Nat.zero_le, pickx, pick, List.getElem?_cons_zero, List.getElem?_cons_succ, List.isEmpty_nil, List.isEmpty_cons, List.isEmpty_map, shaped_t0, shaped_l0, eq_self, List.length_map, ST, SO, SC, retP_d, retT_d, tokX_c, if_true, if_false, true_and, and_true, decide_true, decide_false, Bool.false_eq_true, Bool.not_true, Bool.not_false, decide_eq_true_eq, List.length_cons, List.length_nil, Nat.reduceAdd, Nat.reduceLeDiff, Nat.reduceLT, Nat.reduceMul, Nat.reduceSub, sizeLine_n, List.cons_append, List.nil_append, List.map_cons, List.map_nil, l_draw_n]
      intro e he
      try simp only [Nat.zero_le, pickx, pick, List.getElem?_cons_zero, List.getElem?_cons_succ, List.isEmpty_nil, List.isEmpty_cons, List.isEmpty_map, shaped_t0, shaped_l0, eq_self, List.length_map, ST, SO, SC, retP_d, retT_d, tokX_c, if_true, if_false, true_and, and_true, decide_true, decide_false, Bool.false_eq_true, Bool.not_true, Bool.not_false, decide_eq_true_eq, List.length_cons, List.length_nil, Nat.reduceAdd, Nat.reduceLeDiff, Nat.reduceLT, Nat.reduceMul, Nat.reduceSub, sizeLine_n, List.cons_append, List.nil_append, List.map_cons, List.map_nil, shl1_ok (show e < 100000 by omega)]
      exact hk _ _ ⟨_, _, rfl, rfl, Nat.or_lt_two_pow hd (pow_lt he)⟩
    · rintro τ S1 ⟨d, o, rfl, rfl, hd⟩
      by_cases h3 : way < 3
      · try simp only [Nat.zero_le, pickx, pick, List.getElem?_cons_zero, List.getElem?_cons_succ, List.isEmpty_nil, List.isEmpty_cons, List.isEmpty_map, shaped_t0, shaped_l0, eq_self, List.length_map, ST, SO, SC, retP_d, retT_d, tokX_c, if_true, if_false, true_and, and_true, decide_true, decide_false, Bool.false_eq_true, Bool.not_true, Bool.not_false, decide_eq_true_eq, List.length_cons, List.length_nil, Nat.reduceAdd, Nat.reduceLeDiff, Nat.reduceLT, Nat.reduceMul, Nat.reduceSub, sizeLine_n, List.cons_append, List.nil_append, List.map_cons, List.map_nil, h3]
        exact h d hd
      · have m1 : mulOk (d : Int) (d : Int) = true := mulOk_n hd hd (by decide)
        have m2 : mulOk ((d * d : Nat) : Int) ((40503 : Nat) : Int) = true := mulOk_n (m := wd + wd) (n := 16) (by rw [Nat.pow_add]; exact Nat.mul_lt_mul'' hd hd) (by omega) (by decide)
        have p0 : 0 < 1 * 2 ^ 522 := by rw [Nat.one_mul]; exact Nat.two_pow_pos 522
        try simp only [Nat.zero_le, pickx, pick, List.getElem?_cons_zero, List.getElem?_cons_succ, List.isEmpty_nil, List.isEmpty_cons, List.isEmpty_map, shaped_t0, shaped_l0, eq_self, List.length_map, ST, SO, SC, retP_d, retT_d, tokX_c, if_true, if_false, true_and, and_true, decide_true, decide_false, Bool.false_eq_true, Bool.not_true, Bool.not_false, decide_eq_true_eq, List.length_cons, List.length_nil, Nat.reduceAdd, Nat.reduceLeDiff, Nat.reduceLT, Nat.reduceMul, Nat.reduceSub, sizeLine_n, List.cons_append, List.nil_append, List.map_cons, List.map_nil, h3, m1, m2, shl1_ok (show 522 < 100000 by decide), p0]
        exact h _ (Nat.lt_of_lt_of_eq (Nat.mod_lt _ p0) (Nat.one_mul _))
end
end Ft
namespace Ft
open PySem PySem.Spec L2
section
variable {G : Tbl} [C_m_pages G] {k : Nat} {S : Sto} {Q : Qv} {X : Xv}
theorem check_page_n {x : Nat} (h : x < 2 ^ wd) : wcalls G (k + 4) i_check_page [.d (.int (x : Int))] S Q X = Q (.d .none) S := by
  rw [w_fn0 (fd := F_check_page) C_m_pages.x_check_page rfl rfl rfl rfl rfl]
  simp only [F_check_page, begin_, List.map_cons, List.map_nil, List.length_cons, List.length_nil, Nat.reduceAdd, Nat.reduceSub, List.replicate_succ, List.replicate_zero, List.cons_append, List.nil_append, isoIn]
  unfold B_check_page
  try simp only [Nat.zero_le, pickx, pick, List.getElem?_cons_zero, List.getElem?_cons_succ, List.isEmpty_nil, List.isEmpty_cons, List.isEmpty_map, shaped_t0, shaped_l0, eq_self, List.length_map, ST, SO, SC, retP_d, retT_d, tokX_c, if_true, if_false, true_and, and_true, decide_true, decide_false, Bool.false_eq_true, Bool.not_true, Bool.not_false, decide_eq_true_eq, List.length_cons, List.length_nil, Nat.reduceAdd, Nat.reduceLeDiff, Nat.reduceLT, Nat.reduceMul, Nat.reduceSub, sizeLine_n, List.cons_append, List.nil_append, List.map_cons, List.map_nil, is_paged_n, h]
theorem zeros_in_n {x : Nat} (h : x < 2 ^ wd) : wcalls G (k + 5) i_zeros_in [.d (.int (x : Int))] S Q X = Q (.d (.int (zer x : Int))) S := by
  rw [w_fn0 (fd := F_zeros_in) C_m_pages.x_zeros_in rfl rfl rfl rfl rfl]
  simp only [F_zeros_in, begin_, List.map_cons, List.map_nil, List.length_cons, List.length_nil, Nat.reduceAdd, Nat.reduceSub, List.replicate_succ, List.replicate_zero, List.cons_append, List.nil_append, isoIn]
  unfold B_zeros_in
  try simp only [Nat.zero_le, pickx, pick, List.getElem?_cons_zero, List.getElem?_cons_succ, List.isEmpty_nil, List.isEmpty_cons, List.isEmpty_map, shaped_t0, shaped_l0, eq_self, List.length_map, ST, SO, SC, retP_d, retT_d, tokX_c, if_true, if_false, true_and, and_true, decide_true, decide_false, Bool.false_eq_true, Bool.not_true, Bool.not_false, decide_eq_true_eq, List.length_cons, List.length_nil, Nat.reduceAdd, Nat.reduceLeDiff, Nat.reduceLT, Nat.reduceMul, Nat.reduceSub, sizeLine_n, List.cons_append, List.nil_append, List.map_cons, List.map_nil, check_page_n h, zeros_of_n h]
/-- a page's state -/
def stN (x : Nat) : Str := if x = BL then "blank" else if isW x = true then "whole" else "half"
theorem state_of_n {x : Nat} (h : x < 2 ^ wd) : wcalls G (k + 5) i_state_of [.d (.int (x : Int))] S Q X = Q (.d (.str (stN x))) S := by
  rw [w_fn0 (fd := F_state_of) C_m_pages.x_state_of rfl rfl rfl rfl rfl]
  simp only [F_state_of, begin_, List.map_cons, List.map_nil, List.length_cons, List.length_nil, Nat.reduceAdd, Nat.reduceSub, List.replicate_succ, List.replicate_zero, List.cons_append, List.nil_append, isoIn]
  unfold B_state_of
  unfold stN
  try simp only [Nat.zero_le, pickx, pick, List.getElem?_cons_zero, List.getElem?_cons_succ, List.isEmpty_nil, List.isEmpty_cons, List.isEmpty_map, shaped_t0, shaped_l0, eq_self, List.length_map, ST, SO, SC, retP_d, retT_d, tokX_c, if_true, if_false, true_and, and_true, decide_true, decide_false, Bool.false_eq_true, Bool.not_true, Bool.not_false, decide_eq_true_eq, List.length_cons, List.length_nil, Nat.reduceAdd, Nat.reduceLeDiff, Nat.reduceLT, Nat.reduceMul, Nat.reduceSub, sizeLine_n, List.cons_append, List.nil_append, List.map_cons, List.map_nil, check_page_n h, is_whole_page_n h]
  by_cases hb : x = BL
  · rw [if_pos hb, if_pos hb]
  · rw [if_neg hb, if_neg hb]
    cases isW x <;> rfl
theorem told_by_n {x : Nat} (h : x < 2 ^ wd) : wcalls G (k + 5) i_told_by [.d (.int (x : Int))] S Q X = Q (.d (encO (toldN x))) S := by
  rw [w_fn0 (fd := F_told_by) C_m_pages.x_told_by rfl rfl rfl rfl rfl]
  simp only [F_told_by, begin_, List.map_cons, List.map_nil, List.length_cons, List.length_nil, Nat.reduceAdd, Nat.reduceSub, List.replicate_succ, List.replicate_zero, List.cons_append, List.nil_append, isoIn]
  unfold B_told_by
  try simp only [Nat.zero_le, pickx, pick, List.getElem?_cons_zero, List.getElem?_cons_succ, List.isEmpty_nil, List.isEmpty_cons, List.isEmpty_map, shaped_t0, shaped_l0, eq_self, List.length_map, ST, SO, SC, retP_d, retT_d, tokX_c, if_true, if_false, true_and, and_true, decide_true, decide_false, Bool.false_eq_true, Bool.not_true, Bool.not_false, decide_eq_true_eq, List.length_cons, List.length_nil, Nat.reduceAdd, Nat.reduceLeDiff, Nat.reduceLT, Nat.reduceMul, Nat.reduceSub, sizeLine_n, List.cons_append, List.nil_append, List.map_cons, List.map_nil, check_page_n h, numbers_by_n h]
theorem is_blank_n {x : Nat} (h : x < 2 ^ wd) : wcalls G (k + 5) i_is_blank [.d (.int (x : Int))] S Q X = Q (.d (.bool (decide (x = BL)))) S := by
  rw [w_fn0 (fd := F_is_blank) C_m_pages.x_is_blank rfl rfl rfl rfl rfl]
  simp only [F_is_blank, begin_, List.map_cons, List.map_nil, List.length_cons, List.length_nil, Nat.reduceAdd, Nat.reduceSub, List.replicate_succ, List.replicate_zero, List.cons_append, List.nil_append, isoIn]
  unfold B_is_blank
  try simp only [Nat.zero_le, pickx, pick, List.getElem?_cons_zero, List.getElem?_cons_succ, List.isEmpty_nil, List.isEmpty_cons, List.isEmpty_map, shaped_t0, shaped_l0, eq_self, List.length_map, ST, SO, SC, retP_d, retT_d, tokX_c, if_true, if_false, true_and, and_true, decide_true, decide_false, Bool.false_eq_true, Bool.not_true, Bool.not_false, decide_eq_true_eq, List.length_cons, List.length_nil, Nat.reduceAdd, Nat.reduceLeDiff, Nat.reduceLT, Nat.reduceMul, Nat.reduceSub, sizeLine_n, List.cons_append, List.nil_append, List.map_cons, List.map_nil, check_page_n h]
theorem is_within_n {x y : Nat} (h : x < 2 ^ wd) (h' : y < 2 ^ wd) : wcalls G (k + 5) i_is_within [.d (.int (x : Int)), .d (.int (y : Int))] S Q X = Q (.d (.bool (decide (x &&& y = x)))) S := by
  rw [w_fn0 (fd := F_is_within) C_m_pages.x_is_within rfl rfl rfl rfl rfl]
  simp only [F_is_within, begin_, List.map_cons, List.map_nil, List.length_cons, List.length_nil, Nat.reduceAdd, Nat.reduceSub, List.replicate_succ, List.replicate_zero, List.cons_append, List.nil_append, isoIn]
  unfold B_is_within
  try simp only [Nat.zero_le, pickx, pick, List.getElem?_cons_zero, List.getElem?_cons_succ, List.isEmpty_nil, List.isEmpty_cons, List.isEmpty_map, shaped_t0, shaped_l0, eq_self, List.length_map, ST, SO, SC, retP_d, retT_d, tokX_c, if_true, if_false, true_and, and_true, decide_true, decide_false, Bool.false_eq_true, Bool.not_true, Bool.not_false, decide_eq_true_eq, List.length_cons, List.length_nil, Nat.reduceAdd, Nat.reduceLeDiff, Nat.reduceLT, Nat.reduceMul, Nat.reduceSub, sizeLine_n, List.cons_append, List.nil_append, List.map_cons, List.map_nil, check_page_n h, check_page_n h', lies_within_n]
end
end Ft
namespace Ft
/-- a whole page -/
def WP (x : Nat) : Prop := x < 2 ^ wd ∧ isW x = true
/-- what follows whole data -/
theorem WP_data {d : Nat} (h : d < 2 ^ dw) : WP (d * 1024 + zer (d * 1024)) := by
  have hz := zer_le (d * 1024)
  refine ⟨page_lt h (by omega), decide_eq_true ?_⟩
  have e : zer (d * 1024 + zer (d * 1024)) = zer (d * 1024) := by
    have : (d * 1024 + zer (d * 1024)) / 1024 = d * 1024 / 1024 := by omega
    show 512 - pc dw _ = 512 - pc dw _
    rw [this]
  rw [e]
  omega
end Ft
namespace Ft
open PySem PySem.Spec L2
structure RK (d : D) (e m : Nat) : Prop where
  t : tells d = true
  dp : d.depth ≤ e
  s : shB d ≤ m
structure RKs (d : List D) (e m : Nat) : Prop where
  t : tellsA d = true
  dp : PyData.depthAll d ≤ e
  s : shBs d ≤ m
theorem RK.ok {d : D} {e m : Nat} (h : RK d e m) (he : e ≤ 60) (hm : m ≤ 16777216) : reprOk d := ⟨h.t, Nat.le_trans h.dp he, by rw [sizeLine_n]; exact Nat.le_trans h.s hm⟩
theorem RK.mono {d : D} {e e' m m' : Nat} (h : RK d e m) (he : e ≤ e') (hm : m ≤ m') : RK d e' m' := ⟨h.t, Nat.le_trans h.dp he, Nat.le_trans h.s hm⟩
theorem RKs.nil {e : Nat} : RKs [] e 0 := ⟨rfl, Nat.zero_le _, Nat.zero_le _⟩
theorem RKs.cons {d : D} {r : List D} {e a b : Nat} (h : RK d e a) (g : RKs r e b) : RKs (d :: r) e (a + 2 + b) := ⟨by
    unfold tellsA
    rw [h.t, g.t]
    rfl, by
    unfold PyData.depthAll
    exact Nat.max_le.mpr ⟨h.dp, g.dp⟩, by
    unfold shBs
    have := h.s
    have := g.s
    omega⟩
theorem RKs.map {α : Type} {f : α → D} {e a : Nat} : ∀ {xs : List α}, (∀ x ∈ xs, RK (f x) e a) → RKs (xs.map f) e ((a + 2) * xs.length)
  | [], _ => .nil
  | x :: r, h => by
    have z := RKs.cons (h x (List.mem_cons_self ..)) (RKs.map fun y hy => h y (List.mem_cons_of_mem _ hy))
    rw [List.map_cons, List.length_cons, Nat.mul_add, Nat.mul_one, Nat.add_comm]
    exact z
theorem RK.tup {xs : List D} {e m : Nat} (h : RKs xs e m) : RK (.tuple xs) (e + 1) (m + 3) := ⟨h.t, Nat.succ_le_succ h.dp, Nat.add_le_add_right h.s 3⟩
theorem RK.lst {xs : List D} {e m : Nat} (h : RKs xs e m) : RK (.list xs) (e + 1) (m + 3) := ⟨h.t, Nat.succ_le_succ h.dp, Nat.add_le_add_right h.s 3⟩
theorem RK.non {e : Nat} : RK .none e 4 := ⟨rfl, Nat.zero_le _, Nat.le_refl _⟩
theorem RK.boo {e : Nat} {b : Bool} : RK (.bool b) e 5 := ⟨rfl, Nat.zero_le _, Nat.le_refl _⟩
theorem RK.int_t {e m : Nat} {i : Int} (h : i.natAbs < 2 ^ m) (hm : m ≤ 1900) : RK (.int i) e (m + 80) := by
  have h2 : i.natAbs.log2 ≤ m := by
    by_cases h0 : i.natAbs = 0
    · rw [h0]
      have : Nat.log2 0 = 0 := by decide
      omega
    · exact Nat.le_of_lt ((Nat.log2_lt h0).mpr h)
  refine ⟨?_, Nat.zero_le _, ?_⟩
  · unfold tells
    exact decide_eq_true (by omega)
  · unfold shB
    omega
theorem RK.int {e : Nat} {i : Int} (h : i.natAbs < 2 ^ 1900) : RK (.int i) e 2000 := by
  have z := RK.int_t (e := e) h (Nat.le_refl _)
  exact ⟨z.t, z.dp, Nat.le_trans z.s (by decide)⟩
theorem RK.nat {e n m : Nat} (h : n < 2 ^ m) (hm : m ≤ 1900) : RK (dn n) e 2000 := RK.int (by
  rw [Int.natAbs_natCast]
  exact Nat.lt_of_lt_of_le h (Nat.pow_le_pow_right (by decide) hm))
theorem RK.str {e : Nat} {x : Str} (h : smallS x = true) : RK (.str x) e (10 * x.length + 2) := ⟨h, Nat.zero_le _, Nat.le_refl _⟩
structure SH (d : D) (e : Nat) : Prop where
  l : d.canLay0 = true
  dp : d.depth ≤ e
structure SHs (d : List D) (e : Nat) : Prop where
  l : PyData.canLayAll0 d = true
  dp : PyData.depthAll d ≤ e
theorem SH.ok {d : D} {e : Nat} (h : SH d e) (he : e ≤ 64) : SeqAt.shaped d = true := by
  unfold SeqAt.shaped
  rw [h.l, Bool.true_and]
  exact decide_eq_true (Nat.le_trans h.dp he)
theorem SH.mono {d : D} {e e' : Nat} (h : SH d e) (he : e ≤ e') : SH d e' := ⟨h.l, Nat.le_trans h.dp he⟩
theorem SHs.nil {e : Nat} : SHs [] e := ⟨rfl, Nat.zero_le _⟩
theorem SHs.cons {d : D} {r : List D} {e : Nat} (h : SH d e) (g : SHs r e) : SHs (d :: r) e := ⟨by
    unfold PyData.canLayAll0
    rw [h.l, g.l]
    rfl, by
    unfold PyData.depthAll
    exact Nat.max_le.mpr ⟨h.dp, g.dp⟩⟩
theorem SHs.map {α : Type} {f : α → D} {e : Nat} : ∀ {xs : List α}, (∀ x ∈ xs, SH (f x) e) → SHs (xs.map f) e
  | [], _ => .nil
  | x :: r, h => .cons (h x (List.mem_cons_self ..)) (SHs.map fun y hy => h y (List.mem_cons_of_mem _ hy))
theorem SH.tup {xs : List D} {e : Nat} (h : SHs xs e) : SH (.tuple xs) (e + 1) := ⟨by
    unfold PyData.canLay0
    exact h.l, by
    unfold PyData.depth
    have := h.dp
    omega⟩
theorem SH.lst {xs : List D} {e : Nat} (h : SHs xs e) : SH (.list xs) (e + 1) := ⟨by
    unfold PyData.canLay0
    exact h.l, by
    unfold PyData.depth
    have := h.dp
    omega⟩
theorem SH.non {e : Nat} : SH .none e := ⟨rfl, Nat.zero_le _⟩
theorem SH.boo {e : Nat} {b : Bool} : SH (.bool b) e := ⟨rfl, Nat.zero_le _⟩
theorem SH.int {e : Nat} {i : Int} : SH (.int i) e := ⟨rfl, Nat.zero_le _⟩
theorem SH.str {e : Nat} {x : Str} (h : PyData.strOk x = true) : SH (.str x) e := ⟨by
    unfold PyData.canLay0
    exact h, Nat.zero_le _⟩
theorem SH.ns {ns : List Nat} : SH (.tuple (ns.map dn)) 1 := .tup (.map fun _ _ => .int)
end Ft
set_option autoImplicit false
namespace Ft
open PySem PySem.Spec L2
def Bk.dropN : Nat → Bk → Bk
  | 0, b => b
  | _ + 1, .nil => .nil
  | n + 1, .cons _ r => Bk.dropN n r
def Bk.at_ : Nat → Bk → Option Sm
  | _, .nil => none
  | 0, .cons s _ => some s
  | n + 1, .cons _ r => Bk.at_ n r
theorem Bk.drop_at : ∀ {n : Nat} {b : Bk} {s : Sm}, b.at_ n = some s → b.dropN n = .cons s (b.dropN (n + 1))
  | n, .nil, s, h => by cases n <;> cases h
  | 0, .cons s' r, s, h => by cases h; rfl
  | n + 1, .cons s' r, s, h => by
    show Bk.dropN n r = .cons s (Bk.dropN (n + 1) r)
    exact Bk.drop_at (n := n) h
theorem wB_d {C : KF} {τ : Lo} {S : Sto} {R : Rv} {n : Nat} {b : Bk} {s : Sm} (h : b.at_ n = some s) : wB C τ S (b.dropN n) R = wS C τ S s (thenB C (b.dropN (n + 1)) R) := by
  rw [Bk.drop_at h, wB_cons]
theorem wB_0 {C : KF} {τ : Lo} {S : Sto} {R : Rv} {b : Bk} : wB C τ S b R = wB C τ S (b.dropN 0) R := rfl
end Ft
namespace Ft
open PySem PySem.Spec L2
/-- is it a whole number from lo to hi -/
def betD : D → Int → Int → Bool
  | .int i, lo, hi => decide (lo ≤ i ∧ i ≤ hi)
  | _, _, _ => false
section
variable {G : Tbl} [C_m_values G] {k n : Nat} {S : Sto} {Q : Qv} {X : Xv}
theorem is_whole_d {x : D} : wcalls G (k + 1) i_is_whole [.d x] S Q X = Q (.d (.bool (Ty.of .int x && !Ty.of .bool x))) S := by
  rw [w_fn0 (fd := F_is_whole) C_m_values.x_is_whole rfl rfl rfl rfl rfl]
  simp only [F_is_whole, begin_, List.map_cons, List.map_nil, List.length_cons, List.length_nil, Nat.reduceAdd, Nat.reduceSub, List.replicate_succ, List.replicate_zero, List.cons_append, List.nil_append, isoIn]
  unfold B_is_whole
  cases x <;> (try simp only [Nat.zero_le, pickx, pick, List.getElem?_cons_zero, List.getElem?_cons_succ, List.isEmpty_nil, List.isEmpty_cons, List.isEmpty_map, shaped_t0, shaped_l0, eq_self, List.length_map, ST, SO, SC, retP_d, retT_d, tokX_c, if_true, if_false, true_and, and_true, decide_true, decide_false, Bool.false_eq_true, Bool.not_true, Bool.not_false, decide_eq_true_eq, List.length_cons, List.length_nil, Nat.reduceAdd, Nat.reduceLeDiff, Nat.reduceLT, Nat.reduceMul, Nat.reduceSub, sizeLine_n, List.cons_append, List.nil_append, List.map_cons, List.map_nil, Ty.of, Bool.and_true, Bool.true_and, Bool.false_and, Bool.not_true, Bool.not_false, Bool.and_self])
theorem is_between_d {x : D} {lo hi : Int} : wcalls G (k + 2) i_is_between [.d x, .d (.int lo), .d (.int hi)] S Q X = Q (.d (.bool (betD x lo hi))) S := by
  rw [w_fn0 (fd := F_is_between) C_m_values.x_is_between rfl rfl rfl rfl rfl]
  simp only [F_is_between, begin_, List.map_cons, List.map_nil, List.length_cons, List.length_nil, Nat.reduceAdd, Nat.reduceSub, List.replicate_succ, List.replicate_zero, List.cons_append, List.nil_append, isoIn]
  unfold B_is_between
  try simp only [Nat.zero_le, pickx, pick, List.getElem?_cons_zero, List.getElem?_cons_succ, List.isEmpty_nil, List.isEmpty_cons, List.isEmpty_map, shaped_t0, shaped_l0, eq_self, List.length_map, ST, SO, SC, retP_d, retT_d, tokX_c, if_true, if_false, true_and, and_true, decide_true, decide_false, Bool.false_eq_true, Bool.not_true, Bool.not_false, decide_eq_true_eq, List.length_cons, List.length_nil, Nat.reduceAdd, Nat.reduceLeDiff, Nat.reduceLT, Nat.reduceMul, Nat.reduceSub, sizeLine_n, List.cons_append, List.nil_append, List.map_cons, List.map_nil, is_whole_d]
  cases x with
  | int i =>
    try simp only [Nat.zero_le, pickx, pick, List.getElem?_cons_zero, List.getElem?_cons_succ, List.isEmpty_nil, List.isEmpty_cons, List.isEmpty_map, shaped_t0, shaped_l0, eq_self, List.length_map, ST, SO, SC, retP_d, retT_d, tokX_c, if_true, if_false, true_and, and_true, decide_true, decide_false, Bool.false_eq_true, Bool.not_true, Bool.not_false, decide_eq_true_eq, List.length_cons, List.length_nil, Nat.reduceAdd, Nat.reduceLeDiff, Nat.reduceLT, Nat.reduceMul, Nat.reduceSub, sizeLine_n, List.cons_append, List.nil_append, List.map_cons, List.map_nil, Ty.of, betD, Bool.and_self]
    by_cases h : lo ≤ i
    · try simp only [Nat.zero_le, pickx, pick, List.getElem?_cons_zero, List.getElem?_cons_succ, List.isEmpty_nil, List.isEmpty_cons, List.isEmpty_map, shaped_t0, shaped_l0, eq_self, List.length_map, ST, SO, SC, retP_d, retT_d, tokX_c, if_true, if_false, true_and, and_true, decide_true, decide_false, Bool.false_eq_true, Bool.not_true, Bool.not_false, decide_eq_true_eq, List.length_cons, List.length_nil, Nat.reduceAdd, Nat.reduceLeDiff, Nat.reduceLT, Nat.reduceMul, Nat.reduceSub, sizeLine_n, List.cons_append, List.nil_append, List.map_cons, List.map_nil, h]
    · try simp only [Nat.zero_le, pickx, pick, List.getElem?_cons_zero, List.getElem?_cons_succ, List.isEmpty_nil, List.isEmpty_cons, List.isEmpty_map, shaped_t0, shaped_l0, eq_self, List.length_map, ST, SO, SC, retP_d, retT_d, tokX_c, if_true, if_false, true_and, and_true, decide_true, decide_false, Bool.false_eq_true, Bool.not_true, Bool.not_false, decide_eq_true_eq, List.length_cons, List.length_nil, Nat.reduceAdd, Nat.reduceLeDiff, Nat.reduceLT, Nat.reduceMul, Nat.reduceSub, sizeLine_n, List.cons_append, List.nil_append, List.map_cons, List.map_nil, h, false_and]
  | _ => try simp only [Nat.zero_le, pickx, pick, List.getElem?_cons_zero, List.getElem?_cons_succ, List.isEmpty_nil, List.isEmpty_cons, List.isEmpty_map, shaped_t0, shaped_l0, eq_self, List.length_map, ST, SO, SC, retP_d, retT_d, tokX_c, if_true, if_false, true_and, and_true, decide_true, decide_false, Bool.false_eq_true, Bool.not_true, Bool.not_false, decide_eq_true_eq, List.length_cons, List.length_nil, Nat.reduceAdd, Nat.reduceLeDiff, Nat.reduceLT, Nat.reduceMul, Nat.reduceSub, sizeLine_n, List.cons_append, List.nil_append, List.map_cons, List.map_nil, Ty.of, betD, Bool.and_true, Bool.true_and, Bool.false_and, Bool.not_true, Bool.not_false, Bool.and_self]
end
section
variable {G : Tbl} [C_m_pagework G] {k n : Nat} {S : Sto} {Q : Qv} {X : Xv}
theorem is_paged_d {x : D} : wcalls G (k + 3) i_is_paged [.d x] S Q X = Q (.d (.bool (betD x 0 (BL : Int)))) S := by
  rw [w_fn0 (fd := F_is_paged) C_m_pagework.x_is_paged rfl rfl rfl rfl rfl]
  simp only [F_is_paged, begin_, List.map_cons, List.map_nil, List.length_cons, List.length_nil, Nat.reduceAdd, Nat.reduceSub, List.replicate_succ, List.replicate_zero, List.cons_append, List.nil_append, isoIn]
  unfold B_is_paged
  try simp only [Nat.zero_le, pickx, pick, List.getElem?_cons_zero, List.getElem?_cons_succ, List.isEmpty_nil, List.isEmpty_cons, List.isEmpty_map, shaped_t0, shaped_l0, eq_self, List.length_map, ST, SO, SC, retP_d, retT_d, tokX_c, if_true, if_false, true_and, and_true, decide_true, decide_false, Bool.false_eq_true, Bool.not_true, Bool.not_false, decide_eq_true_eq, List.length_cons, List.length_nil, Nat.reduceAdd, Nat.reduceLeDiff, Nat.reduceLT, Nat.reduceMul, Nat.reduceSub, sizeLine_n, List.cons_append, List.nil_append, List.map_cons, List.map_nil, is_between_d]
  rfl
end
section
variable {G : Tbl} [C_m_page1 G] {k n : Nat} {S : Sto} {Q : Qv} {X : Xv}
theorem is_page_d {x : D} : wcalls G (k + 4) i_is_page [.d x] S Q X = Q (.d (.bool (betD x 0 (BL : Int)))) S := by
  rw [w_fn0 (fd := F_is_page) C_m_page1.x_is_page rfl rfl rfl rfl rfl]
  simp only [F_is_page, begin_, List.map_cons, List.map_nil, List.length_cons, List.length_nil, Nat.reduceAdd, Nat.reduceSub, List.replicate_succ, List.replicate_zero, List.cons_append, List.nil_append, isoIn]
  unfold B_is_page
  try simp only [Nat.zero_le, pickx, pick, List.getElem?_cons_zero, List.getElem?_cons_succ, List.isEmpty_nil, List.isEmpty_cons, List.isEmpty_map, shaped_t0, shaped_l0, eq_self, List.length_map, ST, SO, SC, retP_d, retT_d, tokX_c, if_true, if_false, true_and, and_true, decide_true, decide_false, Bool.false_eq_true, Bool.not_true, Bool.not_false, decide_eq_true_eq, List.length_cons, List.length_nil, Nat.reduceAdd, Nat.reduceLeDiff, Nat.reduceLT, Nat.reduceMul, Nat.reduceSub, sizeLine_n, List.cons_append, List.nil_append, List.map_cons, List.map_nil, is_paged_d]
end
section
variable {G : Tbl} [C_x_k03 G] {k n : Nat} {S : Sto} {Q : Qv} {X : Xv}
theorem full_BL3 : ((1 * 2 ^ 522 : Nat) : Int) - ((1 : Nat) : Int) = ((BL : Nat) : Int) := by
  rw [full_wd]
  exact congrArg (fun n : Nat => (n : Int)) (by have := BLwd; omega)
theorem BL_lt3 : BL < 2 ^ wd := by have := BLwd; omega
theorem l_is_page_d {x : D} : wcalls G (k + 1) i_l_is_page [.d x] S Q X = Q (.d (.bool (betD x 0 (BL : Int)))) S := by
  rw [w_fn0 (fd := F_l_is_page) C_x_k03.x_l_is_page rfl rfl rfl rfl rfl]
  simp only [F_l_is_page, begin_, List.map_cons, List.map_nil, List.length_cons, List.length_nil, Nat.reduceAdd, Nat.reduceSub, List.replicate_succ, List.replicate_zero, List.cons_append, List.nil_append, isoIn]
  unfold B_l_is_page
  cases x with
  | int i =>
    have e : ((1 * 2 ^ 522 : Nat) : Int) = ((BL : Nat) : Int) + 1 := by have := full_BL3; omega
    try simp only [Nat.zero_le, pickx, pick, List.getElem?_cons_zero, List.getElem?_cons_succ, List.isEmpty_nil, List.isEmpty_cons, List.isEmpty_map, shaped_t0, shaped_l0, eq_self, List.length_map, ST, SO, SC, retP_d, retT_d, tokX_c, if_true, if_false, true_and, and_true, decide_true, decide_false, Bool.false_eq_true, Bool.not_true, Bool.not_false, decide_eq_true_eq, List.length_cons, List.length_nil, Nat.reduceAdd, Nat.reduceLeDiff, Nat.reduceLT, Nat.reduceMul, Nat.reduceSub, sizeLine_n, List.cons_append, List.nil_append, List.map_cons, List.map_nil, Ty.of, betD, shl1_ok (show 522 < 100000 by decide), e]
    by_cases c : (0 : Int) ≤ i
    · have c2 : ((0 : Nat) : Int) ≤ i := c
      rw [if_pos c2]
      have c3 : decide (i < ((BL : Nat) : Int) + 1) = decide (0 ≤ i ∧ i ≤ ((BL : Nat) : Int)) := decide_eq_decide.mpr ⟨fun z => ⟨c, by omega⟩, fun z => by omega⟩
      rw [c3]
    · have c2 : ¬ ((0 : Nat) : Int) ≤ i := c
      rw [if_neg c2]
      have c3 : decide (0 ≤ i ∧ i ≤ ((BL : Nat) : Int)) = false := decide_eq_false fun z => c z.1
      rw [c3]
  | _ => try simp only [Nat.zero_le, pickx, pick, List.getElem?_cons_zero, List.getElem?_cons_succ, List.isEmpty_nil, List.isEmpty_cons, List.isEmpty_map, shaped_t0, shaped_l0, eq_self, List.length_map, ST, SO, SC, retP_d, retT_d, tokX_c, if_true, if_false, true_and, and_true, decide_true, decide_false, Bool.false_eq_true, Bool.not_true, Bool.not_false, decide_eq_true_eq, List.length_cons, List.length_nil, Nat.reduceAdd, Nat.reduceLeDiff, Nat.reduceLT, Nat.reduceMul, Nat.reduceSub, sizeLine_n, List.cons_append, List.nil_append, List.map_cons, List.map_nil, Ty.of, betD, Bool.and_true, Bool.true_and, Bool.false_and, Bool.not_true, Bool.not_false, Bool.and_self]
theorem l_any_n (hn : S[n]? = some .tok) (h : ∀ x : Nat, x < 2 ^ wd → Q (.d (.int (x : Int))) S) : wcalls G (k + 4) i_l_any [.ref n] S Q X := by
  rw [w_fn1 (fd := F_l_any) (C_x_k03.x_l_any) rfl rfl rfl rfl hn]
  simp only [F_l_any, begin_, List.map_cons, List.map_nil, List.length_cons, List.length_nil, Nat.reduceAdd, Nat.reduceSub, List.replicate_succ, List.replicate_zero, List.cons_append, List.nil_append, isoIn]
  unfold B_l_any
  try simp only [Nat.zero_le, pickx, pick, List.getElem?_cons_zero, List.getElem?_cons_succ, List.isEmpty_nil, List.isEmpty_cons, List.isEmpty_map, shaped_t0, shaped_l0, eq_self, List.length_map, ST, SO, SC, retP_d, retT_d, tokX_c, if_true, if_false, true_and, and_true, decide_true, decide_false, Bool.false_eq_true, Bool.not_true, Bool.not_false, decide_eq_true_eq, List.length_cons, List.length_nil, Nat.reduceAdd, Nat.reduceLeDiff, Nat.reduceLT, Nat.reduceMul, Nat.reduceSub, sizeLine_n, List.cons_append, List.nil_append, List.map_cons, List.map_nil, l_draw_n]
  intro way hway
  split
  · refine l_row_n rfl fun ns h1 h2 => ?_
    try simp only [Nat.zero_le, pickx, pick, List.getElem?_cons_zero, List.getElem?_cons_succ, List.isEmpty_nil, List.isEmpty_cons, List.isEmpty_map, shaped_t0, shaped_l0, eq_self, List.length_map, ST, SO, SC, retP_d, retT_d, tokX_c, if_true, if_false, true_and, and_true, decide_true, decide_false, Bool.false_eq_true, Bool.not_true, Bool.not_false, decide_eq_true_eq, List.length_cons, List.length_nil, Nat.reduceAdd, Nat.reduceLeDiff, Nat.reduceLT, Nat.reduceMul, Nat.reduceSub, sizeLine_n, List.cons_append, List.nil_append, List.map_cons, List.map_nil, l_word_n h1 h2]
    exact h _ (wordN_lt h1 h2)
  · split
    · refine l_data_n rfl fun d hd => ?_
      try simp only [Nat.zero_le, pickx, pick, List.getElem?_cons_zero, List.getElem?_cons_succ, List.isEmpty_nil, List.isEmpty_cons, List.isEmpty_map, shaped_t0, shaped_l0, eq_self, List.length_map, ST, SO, SC, retP_d, retT_d, tokX_c, if_true, if_false, true_and, and_true, decide_true, decide_false, Bool.false_eq_true, Bool.not_true, Bool.not_false, decide_eq_true_eq, List.length_cons, List.length_nil, Nat.reduceAdd, Nat.reduceLeDiff, Nat.reduceLT, Nat.reduceMul, Nat.reduceSub, sizeLine_n, List.cons_append, List.nil_append, List.map_cons, List.map_nil, l_whole_n hd]
      exact h _ (WP_data hd).1
    · split
      · refine ⟨shl1_ok (by decide), ?_⟩
        rw [full_BL3]
        exact h _ BL_lt3
      · split
        · refine l_data_n rfl fun d hd => ?_
          try simp only [Nat.zero_le, pickx, pick, List.getElem?_cons_zero, List.getElem?_cons_succ, List.isEmpty_nil, List.isEmpty_cons, List.isEmpty_map, shaped_t0, shaped_l0, eq_self, List.length_map, ST, SO, SC, retP_d, retT_d, tokX_c, if_true, if_false, true_and, and_true, decide_true, decide_false, Bool.false_eq_true, Bool.not_true, Bool.not_false, decide_eq_true_eq, List.length_cons, List.length_nil, Nat.reduceAdd, Nat.reduceLeDiff, Nat.reduceLT, Nat.reduceMul, Nat.reduceSub, sizeLine_n, List.cons_append, List.nil_append, List.map_cons, List.map_nil, l_whole_n hd]
          refine l_bits_n rfl fun x hx => ?_
          try simp only [Nat.zero_le, pickx, pick, List.getElem?_cons_zero, List.getElem?_cons_succ, List.isEmpty_nil, List.isEmpty_cons, List.isEmpty_map, shaped_t0, shaped_l0, eq_self, List.length_map, ST, SO, SC, retP_d, retT_d, tokX_c, if_true, if_false, true_and, and_true, decide_true, decide_false, Bool.false_eq_true, Bool.not_true, Bool.not_false, decide_eq_true_eq, List.length_cons, List.length_nil, Nat.reduceAdd, Nat.reduceLeDiff, Nat.reduceLT, Nat.reduceMul, Nat.reduceSub, sizeLine_n, List.cons_append, List.nil_append, List.map_cons, List.map_nil]
          exact h _ (Nat.or_lt_two_pow (WP_data hd).1 hx)
        · split
          · refine ⟨shl1_ok (by decide), fun d hd => ⟨shl1_ok (by omega), ?_⟩⟩
            have hs : 1 * 2 ^ d ≤ 2 ^ wd - 1 := by have := pow_lt hd; unfold wd at *; omega
            rw [full_wd, c_sub hs]
            exact h _ (by have := Nat.two_pow_pos wd; omega)
          · refine l_data_n rfl fun d hd => ?_
            try simp only [Nat.zero_le, pickx, pick, List.getElem?_cons_zero, List.getElem?_cons_succ, List.isEmpty_nil, List.isEmpty_cons, List.isEmpty_map, shaped_t0, shaped_l0, eq_self, List.length_map, ST, SO, SC, retP_d, retT_d, tokX_c, if_true, if_false, true_and, and_true, decide_true, decide_false, Bool.false_eq_true, Bool.not_true, Bool.not_false, decide_eq_true_eq, List.length_cons, List.length_nil, Nat.reduceAdd, Nat.reduceLeDiff, Nat.reduceLT, Nat.reduceMul, Nat.reduceSub, sizeLine_n, List.cons_append, List.nil_append, List.map_cons, List.map_nil, l_draw_n]
            refine ⟨mulOk_n (m := dw) (n := 11) hd (by omega) (by decide), fun c hc => h _ (page_lt hd hc)⟩
theorem l_odd_2_n (hn : S[n]? = some .tok) (h : ∀ z : D, Q (.d z) S) : wcalls G (k + 3) i_l_odd_2 [.ref n] S Q X := by
  rw [w_fn1 (fd := F_l_odd_2) (C_x_k03.x_l_odd_2) rfl rfl rfl rfl hn]
  simp only [F_l_odd_2, begin_, List.map_cons, List.map_nil, List.length_cons, List.length_nil, Nat.reduceAdd, Nat.reduceSub, List.replicate_succ, List.replicate_zero, List.cons_append, List.nil_append, isoIn]
  unfold B_l_odd_2
  try simp only [Nat.zero_le, pickx, pick, List.getElem?_cons_zero, List.getElem?_cons_succ, List.isEmpty_nil, List.isEmpty_cons, List.isEmpty_map, shaped_t0, shaped_l0, eq_self, List.length_map, ST, SO, SC, retP_d, retT_d, tokX_c, if_true, if_false, true_and, and_true, decide_true, decide_false, Bool.false_eq_true, Bool.not_true, Bool.not_false, decide_eq_true_eq, List.length_cons, List.length_nil, Nat.reduceAdd, Nat.reduceLeDiff, Nat.reduceLT, Nat.reduceMul, Nat.reduceSub, sizeLine_n, List.cons_append, List.nil_append, List.map_cons, List.map_nil, l_pick_n]
  have e : dPow (dn 10) (dn 25) = some (.int (((10 : Nat) : Int) ^ ((25 : Nat) : Int).toNat)) := by
    show (if 0 ≤ ((25 : Nat) : Int) ∧ ((25 : Nat) : Int) ≤ 1000000 ∧ (((10 : Nat) : Int)).natAbs < 2 ^ 64 then some (PyData.int (((10 : Nat) : Int) ^ (((25 : Nat) : Int)).toNat)) else none) = _
    exact if_pos ⟨by decide, by decide, by decide⟩
  rw [e]
  show _ ∧ _ ∧ _
  refine ⟨?_, ?_, fun z _ => h z⟩
  · unfold repOk
    exact ⟨by decide, by simp, by omega, by omega⟩
  · unfold repOk
    exact ⟨by decide, by simp, by omega, by omega⟩
theorem l_things_n {x : Nat} (hn : S[n]? = some .tok) (hx : x < 2 ^ wd) (h : ∀ ds : List D, ds.length = 12 → Q (.d (.list ds)) S) : wcalls G (k + 4) i_l_things [.ref n, .d (dn x)] S Q X := by
  rw [w_fn1 (fd := F_l_things) (C_x_k03.x_l_things) rfl rfl rfl rfl hn]
  simp only [F_l_things, begin_, List.map_cons, List.map_nil, List.length_cons, List.length_nil, Nat.reduceAdd, Nat.reduceSub, List.replicate_succ, List.replicate_zero, List.cons_append, List.nil_append, isoIn]
  unfold B_l_things
  try simp only [Nat.zero_le, pickx, pick, List.getElem?_cons_zero, List.getElem?_cons_succ, List.isEmpty_nil, List.isEmpty_cons, List.isEmpty_map, shaped_t0, shaped_l0, eq_self, List.length_map, ST, SO, SC, retP_d, retT_d, tokX_c, if_true, if_false, true_and, and_true, decide_true, decide_false, Bool.false_eq_true, Bool.not_true, Bool.not_false, decide_eq_true_eq, List.length_cons, List.length_nil, Nat.reduceAdd, Nat.reduceLeDiff, Nat.reduceLT, Nat.reduceMul, Nat.reduceSub, sizeLine_n, List.cons_append, List.nil_append, List.map_cons, List.map_nil]
  refine l_odd_2_n rfl fun z1 => ?_
  try simp only [Nat.zero_le, pickx, pick, List.getElem?_cons_zero, List.getElem?_cons_succ, List.isEmpty_nil, List.isEmpty_cons, List.isEmpty_map, shaped_t0, shaped_l0, eq_self, List.length_map, ST, SO, SC, retP_d, retT_d, tokX_c, if_true, if_false, true_and, and_true, decide_true, decide_false, Bool.false_eq_true, Bool.not_true, Bool.not_false, decide_eq_true_eq, List.length_cons, List.length_nil, Nat.reduceAdd, Nat.reduceLeDiff, Nat.reduceLT, Nat.reduceMul, Nat.reduceSub, sizeLine_n, List.cons_append, List.nil_append, List.map_cons, List.map_nil]
  refine l_odd_2_n rfl fun z2 => ?_
  try simp only [Nat.zero_le, pickx, pick, List.getElem?_cons_zero, List.getElem?_cons_succ, List.isEmpty_nil, List.isEmpty_cons, List.isEmpty_map, shaped_t0, shaped_l0, eq_self, List.length_map, ST, SO, SC, retP_d, retT_d, tokX_c, if_true, if_false, true_and, and_true, decide_true, decide_false, Bool.false_eq_true, Bool.not_true, Bool.not_false, decide_eq_true_eq, List.length_cons, List.length_nil, Nat.reduceAdd, Nat.reduceLeDiff, Nat.reduceLT, Nat.reduceMul, Nat.reduceSub, sizeLine_n, List.cons_append, List.nil_append, List.map_cons, List.map_nil]
  have sh := shl1_ok (show 522 < 100000 by decide)
  have lg : ((x : Int)).natAbs.log2 < 1920 := by
    rw [Int.natAbs_natCast]
    rcases Nat.eq_zero_or_pos x with z | z
    · rw [z]; decide
    · exact (Nat.log2_lt (by omega)).mpr (Nat.lt_of_lt_of_le hx (Nat.pow_le_pow_right (by decide) (by decide)))
  have e : cStr [dn x] = some (.str (Str.ofString (toString (x : Int)))) := by
    unfold cStr
    exact if_pos lg
  rw [e]
  exact ⟨sh, sh, sh, h _ rfl⟩
theorem l_page_right_2_n {x : Nat} (hx : x < 2 ^ wd) : wcalls G (k + 6) i_l_page_right_2 [.d (dn x)] S Q X = Q (.d (.bool true)) S := by
  rw [w_fn0 (fd := F_l_page_right_2) C_x_k03.x_l_page_right_2 rfl rfl rfl rfl rfl]
  simp only [F_l_page_right_2, begin_, List.map_cons, List.map_nil, List.length_cons, List.length_nil, Nat.reduceAdd, Nat.reduceSub, List.replicate_succ, List.replicate_zero, List.cons_append, List.nil_append, isoIn]
  unfold B_l_page_right_2
  have hz := zer_le x
  have en : isNo (encN x) = !isW x := by
    unfold encN
    cases isW x with
    | false => rfl
    | true =>
      rw [if_pos rfl]
      cases toldU (unitsOf (x / 1024)) <;> rfl
  have i1 : ∀ s : Str, smallS s = true → s.length ≤ 10 → RK (.str s) 1 300 := fun s h1 h2 => (RK.str (e := 1) h1).mono (Nat.le_refl _) (by omega)
  have i2 : RK (encO (toldN x)) 1 70000 := by
    cases q : toldN x with
    | none => exact RK.non.mono (Nat.le_refl _) (by decide)
    | some ms =>
      obtain ⟨_, h1, h2⟩ := word_told hx q
      exact (RK.tup (e := 0) (.map fun x hx => .nat (m := 16) (h2 x hx) (by decide))).mono (Nat.le_refl _) (by omega)
  have i3 : RK (dn (zer x)) 1 2000 := .nat (m := 10) (by omega) (by decide)
  have ro : ∀ s : Str, smallS s = true → s.length ≤ 10 → ∀ b : Bool, reprOk (.list [.str s, .str s, .bool b, .bool b, encO (toldN x), encO (toldN x), dn (zer x), dn (zer x)]) := fun s h1 h2 b => (RK.lst (.cons (i1 s h1 h2) (.cons (i1 s h1 h2) (.cons .boo (.cons .boo (.cons i2 (.cons i2 (.cons i3 (.cons i3 .nil))))))))).ok (by decide) (by decide)
  try simp only [Nat.zero_le, pickx, pick, List.getElem?_cons_zero, List.getElem?_cons_succ, List.isEmpty_nil, List.isEmpty_cons, List.isEmpty_map, shaped_t0, shaped_l0, eq_self, List.length_map, ST, SO, SC, retP_d, retT_d, tokX_c, if_true, if_false, true_and, and_true, decide_true, decide_false, Bool.false_eq_true, Bool.not_true, Bool.not_false, decide_eq_true_eq, List.length_cons, List.length_nil, Nat.reduceAdd, Nat.reduceLeDiff, Nat.reduceLT, Nat.reduceMul, Nat.reduceSub, sizeLine_n, List.cons_append, List.nil_append, List.map_cons, List.map_nil, full_BL3, shl1_ok (show 522 < 100000 by decide), state_of_n hx, is_blank_n hx, told_by_n hx, zeros_in_n hx, l_numbers_n hx, l_told_by_n hx, Nat.reducePow, l_ones_n (data_lt hx) (show dw < 10000 by decide), c_zer, en]
  unfold stN
  by_cases hb : x = BL
  · rw [if_pos hb, if_pos hb]
    subst hb
    try simp only [Nat.zero_le, pickx, pick, List.getElem?_cons_zero, List.getElem?_cons_succ, List.isEmpty_nil, List.isEmpty_cons, List.isEmpty_map, shaped_t0, shaped_l0, eq_self, List.length_map, ST, SO, SC, retP_d, retT_d, tokX_c, if_true, if_false, true_and, and_true, decide_true, decide_false, Bool.false_eq_true, Bool.not_true, Bool.not_false, decide_eq_true_eq, List.length_cons, List.length_nil, Nat.reduceAdd, Nat.reduceLeDiff, Nat.reduceLT, Nat.reduceMul, Nat.reduceSub, sizeLine_n, List.cons_append, List.nil_append, List.map_cons, List.map_nil, ro "blank" (by decide) (by decide)]
  · rw [if_neg hb, if_neg hb]
    cases hw : isW x with
    | true =>
      try simp only [Nat.zero_le, pickx, pick, List.getElem?_cons_zero, List.getElem?_cons_succ, List.isEmpty_nil, List.isEmpty_cons, List.isEmpty_map, shaped_t0, shaped_l0, eq_self, List.length_map, ST, SO, SC, retP_d, retT_d, tokX_c, if_true, if_false, true_and, and_true, decide_true, decide_false, Bool.false_eq_true, Bool.not_true, Bool.not_false, decide_eq_true_eq, List.length_cons, List.length_nil, Nat.reduceAdd, Nat.reduceLeDiff, Nat.reduceLT, Nat.reduceMul, Nat.reduceSub, sizeLine_n, List.cons_append, List.nil_append, List.map_cons, List.map_nil, hb, ro "whole" (by decide) (by decide)]
    | false =>
      try simp only [Nat.zero_le, pickx, pick, List.getElem?_cons_zero, List.getElem?_cons_succ, List.isEmpty_nil, List.isEmpty_cons, List.isEmpty_map, shaped_t0, shaped_l0, eq_self, List.length_map, ST, SO, SC, retP_d, retT_d, tokX_c, if_true, if_false, true_and, and_true, decide_true, decide_false, Bool.false_eq_true, Bool.not_true, Bool.not_false, decide_eq_true_eq, List.length_cons, List.length_nil, Nat.reduceAdd, Nat.reduceLeDiff, Nat.reduceLT, Nat.reduceMul, Nat.reduceSub, sizeLine_n, List.cons_append, List.nil_append, List.map_cons, List.map_nil, hb, ro "half" (by decide) (by decide)]
theorem l_right_17_n (hn : S[n]? = some .tok) (h : Q (.d (.bool true)) S) : wcalls G (k + 7) i_l_right_17 [.ref n] S Q X := by
  rw [w_fn1 (fd := F_l_right_17) (C_x_k03.x_l_right_17) rfl rfl rfl rfl hn]
  simp only [F_l_right_17, begin_, List.map_cons, List.map_nil, List.length_cons, List.length_nil, Nat.reduceAdd, Nat.reduceSub, List.replicate_succ, List.replicate_zero, List.cons_append, List.nil_append, isoIn]
  rw [wB_0 (b := B_l_right_17)]
  rw [wB_d (n := 0) (b := B_l_right_17) rfl]
  try simp only [Nat.zero_le, pickx, pick, List.getElem?_cons_zero, List.getElem?_cons_succ, List.isEmpty_nil, List.isEmpty_cons, List.isEmpty_map, shaped_t0, shaped_l0, eq_self, List.length_map, ST, SO, SC, retP_d, retT_d, tokX_c, if_true, if_false, true_and, and_true, decide_true, decide_false, Bool.false_eq_true, Bool.not_true, Bool.not_false, decide_eq_true_eq, List.length_cons, List.length_nil, Nat.reduceAdd, Nat.reduceLeDiff, Nat.reduceLT, Nat.reduceMul, Nat.reduceSub, sizeLine_n, List.cons_append, List.nil_append, List.map_cons, List.map_nil]
  refine l_any_n rfl fun x hx => ?_
  try simp only [Nat.zero_le, pickx, pick, List.getElem?_cons_zero, List.getElem?_cons_succ, List.isEmpty_nil, List.isEmpty_cons, List.isEmpty_map, shaped_t0, shaped_l0, eq_self, List.length_map, ST, SO, SC, retP_d, retT_d, tokX_c, if_true, if_false, true_and, and_true, decide_true, decide_false, Bool.false_eq_true, Bool.not_true, Bool.not_false, decide_eq_true_eq, List.length_cons, List.length_nil, Nat.reduceAdd, Nat.reduceLeDiff, Nat.reduceLT, Nat.reduceMul, Nat.reduceSub, sizeLine_n, List.cons_append, List.nil_append, List.map_cons, List.map_nil]
  refine l_any_n rfl fun y hy => ?_
  try simp only [Nat.zero_le, pickx, pick, List.getElem?_cons_zero, List.getElem?_cons_succ, List.isEmpty_nil, List.isEmpty_cons, List.isEmpty_map, shaped_t0, shaped_l0, eq_self, List.length_map, ST, SO, SC, retP_d, retT_d, tokX_c, if_true, if_false, true_and, and_true, decide_true, decide_false, Bool.false_eq_true, Bool.not_true, Bool.not_false, decide_eq_true_eq, List.length_cons, List.length_nil, Nat.reduceAdd, Nat.reduceLeDiff, Nat.reduceLT, Nat.reduceMul, Nat.reduceSub, sizeLine_n, List.cons_append, List.nil_append, List.map_cons, List.map_nil]
  have rest : ∀ y : Nat, y < 2 ^ wd → wB (wcalls G (k + 6)) [some (.ref 0), some (.d (dn y)), none, some (.d (dn x)), none, none, none, none] [.tok] (B_l_right_17.dropN 2) (runP (retT false n S Q) (tokX n S X)) := by
    clear hy y
    intro y hy
    have sh := shl1_ok (show 522 < 100000 by decide)
    have hxy : x ||| y < 2 ^ wd := Nat.or_lt_two_pow hx hy
    rw [wB_d (n := 2) (b := B_l_right_17) rfl]
    try simp only [Nat.zero_le, pickx, pick, List.getElem?_cons_zero, List.getElem?_cons_succ, List.isEmpty_nil, List.isEmpty_cons, List.isEmpty_map, shaped_t0, shaped_l0, eq_self, List.length_map, ST, SO, SC, retP_d, retT_d, tokX_c, if_true, if_false, true_and, and_true, decide_true, decide_false, Bool.false_eq_true, Bool.not_true, Bool.not_false, decide_eq_true_eq, List.length_cons, List.length_nil, Nat.reduceAdd, Nat.reduceLeDiff, Nat.reduceLT, Nat.reduceMul, Nat.reduceSub, sizeLine_n, List.cons_append, List.nil_append, List.map_cons, List.map_nil, l_page_right_2_n hx, l_page_right_2_n hy]
    rw [wB_d (n := 3) (b := B_l_right_17) rfl]
    try simp only [Nat.zero_le, pickx, pick, List.getElem?_cons_zero, List.getElem?_cons_succ, List.isEmpty_nil, List.isEmpty_cons, List.isEmpty_map, shaped_t0, shaped_l0, eq_self, List.length_map, ST, SO, SC, retP_d, retT_d, tokX_c, if_true, if_false, true_and, and_true, decide_true, decide_false, Bool.false_eq_true, Bool.not_true, Bool.not_false, decide_eq_true_eq, List.length_cons, List.length_nil, Nat.reduceAdd, Nat.reduceLeDiff, Nat.reduceLT, Nat.reduceMul, Nat.reduceSub, sizeLine_n, List.cons_append, List.nil_append, List.map_cons, List.map_nil, full_BL3]
    refine ⟨sh, ?_⟩
    have pair : ∀ b : Bool, RK (.list [.bool b, .bool b]) 1 300 := fun b => (RK.lst (e := 0) (.cons .boo (.cons .boo .nil))).mono (Nat.le_refl _) (by decide)
    obtain ⟨L, eL⟩ : ∃ L, L = [dn 522, dn BL] := ⟨_, rfl⟩
    have hL : L.length = 2 ∧ ∀ d ∈ L, RK d 1 3000 := by
      subst eL
      refine ⟨rfl, fun d hd => ?_⟩
      rcases List.mem_cons.mp hd with rfl | hd
      · exact (RK.nat (m := 10) (by decide) (by decide)).mono (Nat.le_refl _) (by decide)
      · rw [List.mem_singleton.mp hd]
        exact (RK.nat (m := wd) BL_lt3 (by decide)).mono (Nat.le_refl _) (by decide)
    rw [show [dn 522, dn 13729595320261219429963801598162786434538870600286610818788926918371086366795312104245119281322909109954592622782961716074243975999433287625148056582230114303] = L from eL.symm]
    rw [wB_d (n := 4) (b := B_l_right_17) rfl]
    try simp only [Nat.zero_le, pickx, pick, List.getElem?_cons_zero, List.getElem?_cons_succ, List.isEmpty_nil, List.isEmpty_cons, List.isEmpty_map, shaped_t0, shaped_l0, eq_self, List.length_map, ST, SO, SC, retP_d, retT_d, tokX_c, if_true, if_false, true_and, and_true, decide_true, decide_false, Bool.false_eq_true, Bool.not_true, Bool.not_false, decide_eq_true_eq, List.length_cons, List.length_nil, Nat.reduceAdd, Nat.reduceLeDiff, Nat.reduceLT, Nat.reduceMul, Nat.reduceSub, sizeLine_n, List.cons_append, List.nil_append, List.map_cons, List.map_nil]
    refine w_for (fun r τ S1 => ∃ (L : List D) (ps : List (Nat × Nat)) (o6 o7 : Option W), S1 = [.tok, .dl L, .dl L] ∧ τ = [some (.ref 0), some (.d (dn y)), none, some (.d (dn x)), some (.ref 1), some (.ref 2), o6, o7] ∧ r = ps.map (fun p => PyData.tuple [dn p.1, dn p.2]) ∧ (∀ p ∈ ps, p.1 < 2 ^ wd ∧ p.2 < 2 ^ wd) ∧ L.length + ps.length = 6 ∧ ∀ d ∈ L, RK d 1 3000) ?_ ?_ _ _ _ ⟨L, [(x, y), (y, x), (x, x), (x, x ||| y)], none, none, rfl, rfl, rfl, fun p hp => ?_, by rw [hL.1]; rfl, hL.2⟩
    · rintro z r τ S1 K ⟨L, ps, o6, o7, rfl, rfl, hr, hps, hl, hk⟩ hk2 - - - -
      cases ps with
      | nil => cases hr
      | cons p ps =>
        rw [List.map_cons] at hr
        obtain ⟨rfl, rfl⟩ := List.cons.inj hr
        obtain ⟨p1, p2⟩ := hps p (.head _)
        rw [List.length_cons] at hl
        have r2 : repLOk 1 ((2 : Nat) : Int) := by
          unfold repLOk
          simp [sizeLine_n]
        have hl1 : L.length < 16777216 := by omega
        unfold fTurn
        try simp only [Nat.zero_le, pickx, pick, List.getElem?_cons_zero, List.getElem?_cons_succ, List.isEmpty_nil, List.isEmpty_cons, List.isEmpty_map, shaped_t0, shaped_l0, eq_self, List.length_map, ST, SO, SC, retP_d, retT_d, tokX_c, if_true, if_false, true_and, and_true, decide_true, decide_false, Bool.false_eq_true, Bool.not_true, Bool.not_false, decide_eq_true_eq, List.length_cons, List.length_nil, Nat.reduceAdd, Nat.reduceLeDiff, Nat.reduceLT, Nat.reduceMul, Nat.reduceSub, sizeLine_n, List.cons_append, List.nil_append, List.map_cons, List.map_nil, is_within_n p1 p2, hl1, r2]
        exact hk2 _ _ ⟨L ++ [.list [.bool (decide (p.1 &&& p.2 = p.1)), .bool (decide (p.1 &&& p.2 = p.1))]], ps, _, _, rfl, rfl, rfl, fun q hq => hps q (.tail _ hq), by rw [List.length_append, List.length_singleton]; omega, fun d hd => by
          rcases List.mem_append.mp hd with hd | hd
          · exact hk d hd
          · rw [List.mem_singleton.mp hd]
            exact (pair _).mono (Nat.le_refl _) (by decide)⟩
    · rintro τ S1 ⟨L, ps, o6, o7, rfl, rfl, hr, hps, hl, hk⟩
      cases ps with
      | cons b bs => cases hr
      | nil =>
        try simp only [Nat.zero_le, pickx, pick, List.getElem?_cons_zero, List.getElem?_cons_succ, List.isEmpty_nil, List.isEmpty_cons, List.isEmpty_map, shaped_t0, shaped_l0, eq_self, List.length_map, ST, SO, SC, retP_d, retT_d, tokX_c, if_true, if_false, true_and, and_true, decide_true, decide_false, Bool.false_eq_true, Bool.not_true, Bool.not_false, decide_eq_true_eq, List.length_cons, List.length_nil, Nat.reduceAdd, Nat.reduceLeDiff, Nat.reduceLT, Nat.reduceMul, Nat.reduceSub, sizeLine_n, List.cons_append, List.nil_append, List.map_cons, List.map_nil]
        rw [wB_d (n := 5) (b := B_l_right_17) rfl]
        try simp only [Nat.zero_le, pickx, pick, List.getElem?_cons_zero, List.getElem?_cons_succ, List.isEmpty_nil, List.isEmpty_cons, List.isEmpty_map, shaped_t0, shaped_l0, eq_self, List.length_map, ST, SO, SC, retP_d, retT_d, tokX_c, if_true, if_false, true_and, and_true, decide_true, decide_false, Bool.false_eq_true, Bool.not_true, Bool.not_false, decide_eq_true_eq, List.length_cons, List.length_nil, Nat.reduceAdd, Nat.reduceLeDiff, Nat.reduceLT, Nat.reduceMul, Nat.reduceSub, sizeLine_n, List.cons_append, List.nil_append, List.map_cons, List.map_nil]
        refine l_things_n rfl hx fun ds hds => ?_
        try simp only [Nat.zero_le, pickx, pick, List.getElem?_cons_zero, List.getElem?_cons_succ, List.isEmpty_nil, List.isEmpty_cons, List.isEmpty_map, shaped_t0, shaped_l0, eq_self, List.length_map, ST, SO, SC, retP_d, retT_d, tokX_c, if_true, if_false, true_and, and_true, decide_true, decide_false, Bool.false_eq_true, Bool.not_true, Bool.not_false, decide_eq_true_eq, List.length_cons, List.length_nil, Nat.reduceAdd, Nat.reduceLeDiff, Nat.reduceLT, Nat.reduceMul, Nat.reduceSub, sizeLine_n, List.cons_append, List.nil_append, List.map_cons, List.map_nil, hds]
        refine w_for (fun r τ S1 => ∃ (L : List D) (o2 o6 o7 : Option W), S1 = [.tok, .dl L, .dl L] ∧ τ = [some (.ref 0), some (.d (dn y)), o2, some (.d (dn x)), some (.ref 1), some (.ref 2), o6, o7] ∧ L.length + r.length = 18 ∧ ∀ d ∈ L, RK d 1 3000) ?_ ?_ _ _ _ ⟨L, none, o6, o7, rfl, rfl, by simp at hl; omega, hk⟩
        · rintro z r τ S1 K ⟨L, o2, o6, o7, rfl, rfl, hl, hk⟩ hk2 - - - -
          rw [List.length_cons] at hl
          have r2 : repLOk 1 ((2 : Nat) : Int) := by
            unfold repLOk
            simp [sizeLine_n]
          have hl1 : L.length < 16777216 := by omega
          have q1 := fun {S : Sto} {Q : Qv} {X : Xv} => is_page_d (G := G) (k := k + 2) (S := S) (Q := Q) (X := X) (x := z)
          have q2 := fun {S : Sto} {Q : Qv} {X : Xv} => l_is_page_d (G := G) (k := k + 5) (S := S) (Q := Q) (X := X) (x := z)
          unfold fTurn
          try simp only [Nat.zero_le, pickx, pick, List.getElem?_cons_zero, List.getElem?_cons_succ, List.isEmpty_nil, List.isEmpty_cons, List.isEmpty_map, shaped_t0, shaped_l0, eq_self, List.length_map, ST, SO, SC, retP_d, retT_d, tokX_c, if_true, if_false, true_and, and_true, decide_true, decide_false, Bool.false_eq_true, Bool.not_true, Bool.not_false, decide_eq_true_eq, List.length_cons, List.length_nil, Nat.reduceAdd, Nat.reduceLeDiff, Nat.reduceLT, Nat.reduceMul, Nat.reduceSub, sizeLine_n, List.cons_append, List.nil_append, List.map_cons, List.map_nil, q1, q2, hl1, r2]
          exact hk2 _ _ ⟨L ++ [.list [.bool (betD z 0 (BL : Int)), .bool (betD z 0 (BL : Int))]], _, _, _, rfl, rfl, by rw [List.length_append, List.length_singleton]; omega, fun d hd => by
            rcases List.mem_append.mp hd with hd | hd
            · exact hk d hd
            · rw [List.mem_singleton.mp hd]
              exact (pair _).mono (Nat.le_refl _) (by decide)⟩
        · rintro τ S1 ⟨L, o2, o6, o7, rfl, rfl, hl, hk⟩
          have ro : reprOk (.list L) := by
            have := (RK.lst (RKs.map (f := id) hk)).ok (by decide) (by rw [List.length_nil] at hl; omega)
            rw [List.map_id] at this
            exact this
          try simp only [Nat.zero_le, pickx, pick, List.getElem?_cons_zero, List.getElem?_cons_succ, List.isEmpty_nil, List.isEmpty_cons, List.isEmpty_map, shaped_t0, shaped_l0, eq_self, List.length_map, ST, SO, SC, retP_d, retT_d, tokX_c, if_true, if_false, true_and, and_true, decide_true, decide_false, Bool.false_eq_true, Bool.not_true, Bool.not_false, decide_eq_true_eq, List.length_cons, List.length_nil, Nat.reduceAdd, Nat.reduceLeDiff, Nat.reduceLT, Nat.reduceMul, Nat.reduceSub, sizeLine_n, List.cons_append, List.nil_append, List.map_cons, List.map_nil]
          rw [wB_d (n := 6) (b := B_l_right_17) rfl]
          try simp only [Nat.zero_le, pickx, pick, List.getElem?_cons_zero, List.getElem?_cons_succ, List.isEmpty_nil, List.isEmpty_cons, List.isEmpty_map, shaped_t0, shaped_l0, eq_self, List.length_map, ST, SO, SC, retP_d, retT_d, tokX_c, if_true, if_false, true_and, and_true, decide_true, decide_false, Bool.false_eq_true, Bool.not_true, Bool.not_false, decide_eq_true_eq, List.length_cons, List.length_nil, Nat.reduceAdd, Nat.reduceLeDiff, Nat.reduceLT, Nat.reduceMul, Nat.reduceSub, sizeLine_n, List.cons_append, List.nil_append, List.map_cons, List.map_nil, ro]
          exact h
    · simp only [List.mem_cons, List.not_mem_nil, or_false] at hp
      rcases hp with rfl | rfl | rfl | rfl
      · exact ⟨hx, hy⟩
      · exact ⟨hy, hx⟩
      · exact ⟨hx, hx⟩
      · exact ⟨hx, hxy⟩
  rw [wB_d (n := 1) (b := B_l_right_17) rfl]
  try simp only [Nat.zero_le, pickx, pick, List.getElem?_cons_zero, List.getElem?_cons_succ, List.isEmpty_nil, List.isEmpty_cons, List.isEmpty_map, shaped_t0, shaped_l0, eq_self, List.length_map, ST, SO, SC, retP_d, retT_d, tokX_c, if_true, if_false, true_and, and_true, decide_true, decide_false, Bool.false_eq_true, Bool.not_true, Bool.not_false, decide_eq_true_eq, List.length_cons, List.length_nil, Nat.reduceAdd, Nat.reduceLeDiff, Nat.reduceLT, Nat.reduceMul, Nat.reduceSub, sizeLine_n, List.cons_append, List.nil_append, List.map_cons, List.map_nil, l_draw_n]
  intro d hd
  split
  · exact rest _ (Nat.and_lt_two_pow _ hy)
  · exact rest _ hy
theorem l_law_17_n {ns : List Int} (hl : ns.length ≤ 63) : wcalls G (k + 8) i_l_law_17 [.d (.list (ns.map .int))] S (fun w _ => w = .d (.bool true)) noX := by
  rw [w_fn0 (fd := F_l_law_17) C_x_k03.x_l_law_17 rfl rfl rfl rfl rfl]
  simp only [F_l_law_17, begin_, List.map_cons, List.map_nil, List.length_cons, List.length_nil, Nat.reduceAdd, Nat.reduceSub, List.replicate_succ, List.replicate_zero, List.cons_append, List.nil_append, isoIn]
  unfold B_l_law_17
  have h1 : max 2 (min ns.length 3) < 4611686018427387904 := by omega
  have h2 : max 2 (min ns.length 3) ≤ 16777216 := by omega
  try simp only [Nat.zero_le, pickx, pick, List.getElem?_cons_zero, List.getElem?_cons_succ, List.isEmpty_nil, List.isEmpty_cons, List.isEmpty_map, shaped_t0, shaped_l0, eq_self, List.length_map, ST, SO, SC, retP_d, retT_d, tokX_c, if_true, if_false, true_and, and_true, decide_true, decide_false, Bool.false_eq_true, Bool.not_true, Bool.not_false, decide_eq_true_eq, List.length_cons, List.length_nil, Nat.reduceAdd, Nat.reduceLeDiff, Nat.reduceLT, Nat.reduceMul, Nat.reduceSub, sizeLine_n, List.cons_append, List.nil_append, List.map_cons, List.map_nil, h1, rng_len, Nat.sub_zero, h2]
  refine w_law (fun i S1 K hi hk => ?_) fun S1 => ?_
  · unfold cTurn
    try simp only [Nat.zero_le, pickx, pick, List.getElem?_cons_zero, List.getElem?_cons_succ, List.isEmpty_nil, List.isEmpty_cons, List.isEmpty_map, shaped_t0, shaped_l0, eq_self, List.length_map, ST, SO, SC, retP_d, retT_d, tokX_c, if_true, if_false, true_and, and_true, decide_true, decide_false, Bool.false_eq_true, Bool.not_true, Bool.not_false, decide_eq_true_eq, List.length_cons, List.length_nil, Nat.reduceAdd, Nat.reduceLeDiff, Nat.reduceLT, Nat.reduceMul, Nat.reduceSub, sizeLine_n, List.cons_append, List.nil_append, List.map_cons, List.map_nil, wip]
    rw [w_well (fd := F_l_spring_13) (ns := ns) C_x_k03.x_l_spring_13 rfl rfl rfl hl (by omega)]
    refine l_right_17_n (by simp) ?_
    exact hk _
  · try simp only [Nat.zero_le, pickx, pick, List.getElem?_cons_zero, List.getElem?_cons_succ, List.isEmpty_nil, List.isEmpty_cons, List.isEmpty_map, shaped_t0, shaped_l0, eq_self, List.length_map, ST, SO, SC, retP_d, retT_d, tokX_c, if_true, if_false, true_and, and_true, decide_true, decide_false, Bool.false_eq_true, Bool.not_true, Bool.not_false, decide_eq_true_eq, List.length_cons, List.length_nil, Nat.reduceAdd, Nat.reduceLeDiff, Nat.reduceLT, Nat.reduceMul, Nat.reduceSub, sizeLine_n, List.cons_append, List.nil_append, List.map_cons, List.map_nil, all_rep]
end
end Ft
set_option maxHeartbeats 0
open PySem PySem.W PySem.Calls PyProof.Rows
theorem Ft.law_run (ns : List Int) (h : ns.length ≤ 63) : ∃ S, Ft.calls Ft.G 40 Ft.d_l_law_17.ix [.d (.list (ns.map .int))] [] = .ok (.d (.bool true)) S := Ft.law_w Ft.kds Ft.caps (by decide +kernel) (by decide) (Ft.l_law_17_n h)
theorem PySem.Challenge.cw_flashtrees_k03_whole_pages_of_anything_holds : PySem.Challenge.rw_flashtrees_k03_whole_pages_of_anything.Holds := by
  w_on; o_law
  refine HandSHeadRun.head_any (r := OpenLaw.row PySem.Challenge.rw_flashtrees_k03_whole_pages_of_anything) (q := view (OpenLaw.row PySem.Challenge.rw_flashtrees_k03_whole_pages_of_anything).prog [48]) (H := Ft.lhk) (ob := Ft.lob) (M := 20000) (loose := Ft.loose) (d := HandSHeadRun.topDef (OpenLaw.row PySem.Challenge.rw_flashtrees_k03_whole_pages_of_anything).prog 48) (kwd := []) Ft.lob_eq
    (by kernel_rfl) (fun s => by kernel_rfl) Ft.lrun (by kernel_rfl) (by kernel_rfl) (by kernel_rfl) (by rfl) (by first | assumption | decide +kernel) (by decide +kernel) ⟨rfl, rfl, rfl, rfl, rfl, by decide +kernel⟩ ?hw ?hc
  case hw => w_witness2
  case hc => exact Ft.walk_ft (n := 63) (k := 40) (dn := Ft.d_l_law_17) (x := "_law_script") rfl (by decide) (by kernel_rfl) ⟨rfl, by decide, by decide⟩ Ft.hT Ft.all_ok (by simp [Ft.md]) (by kernel_rfl) rfl Ft.law_run
